import PyProof.Rows.All
import Wide.All
import OpenK.AllK
import Wide.FinOn
import HandS.ForMost
import HandS.ForExc
import HandS.ExcOwn
import HandS.Walk
import HandS.Comp
import HandS.WordsExc
import HandS.TupAny
import HandS.IsInst
import HandS.Text
import HandS.WordsDict
import HandS.Deep
import KE.KExcSuper
import HandS.ExcInit
import HandS.ExcField
import HandS.TryMany
import HandS.Ends
import HandS.EndOwn
import HandS.MapJoin
import HandS.RaiseMore
import HandS.More
import PyProof.StrBlock2
import PyProof.AutoSeq1
import HandS.RevRange
import KE.SortData
import PySem.Challenge.RW_formatory_k28_moves_made
set_option Elab.async false
set_option linter.all false
set_option maxRecDepth 100000
set_option maxHeartbeats 4000000
/-! P1: pure values PV, how they lie in the abstract heap (with their mutable footprint), environments, frames. -/
namespace PVL
open PySem PySem.Spec L2

inductive PV where
  | non | bl (b : Bool) | int (i : Int) | str (x : Str)
  | tup (xs : List PV)
  | frz (xs : List PV)
  | lst (xs : List PV)
  | dct (kvs : List (PV × PV))
  | obj (c : Str) (fs : List (Str × PV))
  | ty (n : String)
  deriving Inhabited

def kPV : Key → PV
  | .inl i => .int i
  | .inr x => .str x

mutual
def PV.imm : PV → Bool
  | .non => true
  | .bl _ => true
  | .int _ => true
  | .str _ => true
  | .tup xs => immL xs
  | .frz _ => true
  | .lst _ => false
  | .dct _ => false
  | .obj _ _ => false
  | .ty _ => true
def immL : List PV → Bool
  | [] => true
  | x :: xs => x.imm && immL xs
end

/-- a list that is only read: frozen (the script), or written in the module -/
def SqF (K : PySem.W.Frag) (H : Hp) (a : Addr) (xs : List V) : Prop :=
  (∃ o, H a = some (.frz o (.lst xs))) ∨
    ∃ (o : Obj) (its : Array Value) (n : Nat), K.lookup a = some o ∧ o.cls = .type "list" ∧ o.dict = none ∧ o.data = .seq its n ∧ its.size ≤ sizeLine ∧ Vals xs its.toList
theorem SqF.toL {K : PySem.W.Frag} {H : Hp} {a : Addr} {xs : List V} (h : SqF K H a xs) : SqL K H a xs := by
  rcases h with ⟨o, h⟩ | h
  · exact .inl (.inr ⟨o, h⟩)
  · exact .inr h

/-- a class by the module's name -/
def ClsAt (K : PySem.W.Frag) (c : Str) (C : Addr) : Prop := PySem.W.nsIn K mainGlobals c = some (some (.ref C))
mutual
def RV (K : PySem.W.Frag) (H : Hp) : PV → V → List Addr → Prop
  | .non, v, F => v = .non ∧ F = []
  | .bl b, v, F => v = .bl b ∧ F = []
  | .int i, v, F => v = .int i ∧ F = []
  | .str x, v, F => v = .str x ∧ F = []
  | .tup xs, v, F => ∃ a vs, v = .ref a ∧ SqT K H a vs ∧ RVL K H xs vs F
  | .frz xs, v, F => ∃ a vs, v = .ref a ∧ SqF K H a vs ∧ RVL K H xs vs [] ∧ F = []
  | .lst xs, v, F => ∃ a vs F', v = .ref a ∧ H a = some (.lst vs) ∧ RVL K H xs vs F' ∧ F = a :: F'
  | .dct kvs, v, F => ∃ a ws F', v = .ref a ∧ ((∃ vs, H a = some (.dK vs) ∧ ws = vs.map fun p => (kPV p.1, p.2)) ∨ (∃ vs, H a = some (.dT vs) ∧ ws = vs.map fun p => (PV.tup (p.1.map kPV), p.2))) ∧ RVD K H kvs ws F' ∧ F = a :: F'
  | .obj c fs, v, F => ∃ a dx vs F', v = .ref a ∧ (∃ C, ClsAt K c C ∧ H a = some (.ins C dx vs)) ∧ H dx = some (.own a) ∧ RVF K H fs vs F' ∧ F = a :: dx :: F'
  | .ty n, v, F => v = .ty n ∧ F = []
def RVL (K : PySem.W.Frag) (H : Hp) : List PV → List V → List Addr → Prop
  | [], vs, F => vs = [] ∧ F = []
  | x :: xs, vs, F => ∃ v vr F1 F2, vs = v :: vr ∧ RV K H x v F1 ∧ RVL K H xs vr F2 ∧ F = F1 ++ F2
def RVD (K : PySem.W.Frag) (H : Hp) : List (PV × PV) → List (PV × V) → List Addr → Prop
  | [], vs, F => vs = [] ∧ F = []
  | (k, x) :: xs, vs, F => ∃ v vr F1 F2, vs = (k, v) :: vr ∧ RV K H x v F1 ∧ RVD K H xs vr F2 ∧ F = F1 ++ F2
def RVF (K : PySem.W.Frag) (H : Hp) : List (Str × PV) → List (Str × V) → List Addr → Prop
  | [], vs, F => vs = [] ∧ F = []
  | (k, x) :: xs, vs, F => ∃ v vr F1 F2, vs = (k, v) :: vr ∧ RV K H x v F1 ∧ RVF K H xs vr F2 ∧ F = F1 ++ F2
end

/-- what is mutable: it may stand in a footprint -/
def mutO : HO → Bool
  | .lst _ => true
  | .dK _ => true
  | .dT _ => true
  | .ins _ _ _ => true
  | .own _ => true
  | _ => false
def Mt (H : Hp) (F : List Addr) : Prop := ∀ b ∈ F, ∃ o, H b = some o ∧ mutO o = true
/-- all that stood stands, but what stands in F -/
def Kp (F : List Addr) (H H' : Hp) : Prop := ∀ b o, b ∉ F → H b = some o → H' b = some o
/-- from the footprint F of H to the footprint F' of H' -/
structure Fm (F : List Addr) (H : Hp) (F' : List Addr) (H' : Hp) : Prop where
  kp : Kp F H H'
  fr : ∀ b ∈ F', b ∈ F ∨ H b = none
abbrev Sm (H H' : Hp) : Prop := ∀ b o, H b = some o → H' b = some o
/-- fresh -/
def Fr (H : Hp) (F : List Addr) : Prop := ∀ b ∈ F, H b = none

section
variable {K : PySem.W.Frag} {H H' H'' : Hp} {F F' F'' : List Addr}
theorem Kp.refl : Kp F H H := fun _ _ _ e => e
theorem Sm.kp (s : Sm H H') : Kp F H H' := fun b o _ e => s b o e
theorem Kp.sm (k : Kp [] H H') : Sm H H' := fun b o e => k b o (by simp) e
theorem Kp.mono (k : Kp F H H') (h : ∀ b ∈ F, b ∈ F') : Kp F' H H' := fun b o n e => k b o (fun z => n (h b z)) e
theorem Fm.trans (a : Fm F H F' H') (b : Fm F' H' F'' H'') : Fm F H F'' H'' where
  kp := fun x o n e => b.kp x o (fun z => by
    rcases a.fr x z with y | y
    · exact n y
    · rw [e] at y; cases y) (a.kp x o n e)
  fr := fun x z => by
    rcases b.fr x z with y | y
    · exact a.fr x y
    · by_cases hx : x ∈ F
      · exact .inl hx
      · right
        cases q : H x with
        | none => rfl
        | some o => rw [a.kp x o hx q] at y; cases y
theorem Fm.refl : Fm F H F H := ⟨Kp.refl, fun _ z => .inl z⟩
theorem Fm.of_sm (s : Sm H H') (h : ∀ b ∈ F', b ∈ F ∨ H b = none) : Fm F H F' H' := ⟨Sm.kp s, h⟩
theorem Fm.sub (a : Fm F H F' H') (h : ∀ b ∈ F'', b ∈ F') : Fm F H F'' H' := ⟨a.kp, fun b z => a.fr b (h b z)⟩
theorem Fm.widen {G : List Addr} (a : Fm F H F' H') (h : ∀ b ∈ F, b ∈ G) : Fm G H F' H' := ⟨a.kp.mono h, fun b z => (a.fr b z).imp (h b) id⟩
theorem sm_upd {p : Addr} {o : HO} (h : H p = none) : Sm H (upd H p o) := fun b x e => by
  rw [upd_ne (ne_of_none e h)]; exact e
theorem Sm.trans (a : Sm H H') (b : Sm H' H'') : Sm H H'' := fun x o e => b x o (a x o e)

theorem SqT.kp {a : Addr} {xs : List V} (h : SqT K H a xs) (k : ∀ b o, H b = some o → mutO o = false → H' b = some o) : SqT K H' a xs := by
  rcases h with h | h
  · rcases h with h | ⟨o, h⟩
    · exact .inl (.inl (k _ _ h rfl))
    · exact .inl (.inr ⟨o, k _ _ h rfl⟩)
  · exact .inr h
theorem SqF.kp {a : Addr} {xs : List V} (h : SqF K H a xs) (k : ∀ b o, H b = some o → mutO o = false → H' b = some o) : SqF K H' a xs := by
  rcases h with ⟨o, h⟩ | h
  · exact .inl ⟨o, k _ _ h rfl⟩
  · exact .inr h
end

section
variable {K : PySem.W.Frag} {H H' : Hp}
mutual
theorem RV.imm : ∀ {x : PV} {v : V} {F : List Addr}, x.imm = true → RV K H x v F → F = []
  | .non, _, _, _, h => by simp only [RV] at h; exact h.2
  | .bl _, _, _, _, h => by simp only [RV] at h; exact h.2
  | .int _, _, _, _, h => by simp only [RV] at h; exact h.2
  | .str _, _, _, _, h => by simp only [RV] at h; exact h.2
  | .tup xs, _, _, i, h => by
    simp only [RV] at h
    obtain ⟨_, _, _, _, h⟩ := h
    exact RVL.imm (by simpa only [PV.imm] using i) h
  | .frz _, _, _, _, h => by simp only [RV] at h; obtain ⟨_, _, _, _, _, h⟩ := h; exact h
  | .lst _, _, _, i, _ => by simp [PV.imm] at i
  | .dct _, _, _, i, _ => by simp [PV.imm] at i
  | .obj _ _, _, _, i, _ => by simp [PV.imm] at i
  | .ty _, _, _, _, h => by simp only [RV] at h; exact h.2
theorem RVL.imm : ∀ {xs : List PV} {vs : List V} {F : List Addr}, immL xs = true → RVL K H xs vs F → F = []
  | [], _, _, _, h => by simp only [RVL] at h; exact h.2
  | x :: xs, _, _, i, h => by
    simp only [RVL] at h
    obtain ⟨_, _, F1, F2, _, h1, h2, e⟩ := h
    simp only [immL, Bool.and_eq_true] at i
    rw [e, RV.imm i.1 h1, RVL.imm i.2 h2]; rfl
end

mutual
theorem RV.mt : ∀ {x : PV} {v : V} {F : List Addr}, RV K H x v F → Mt H F
  | .non, _, _, h => by simp only [RV] at h; rw [h.2]; intro b z; simp at z
  | .bl _, _, _, h => by simp only [RV] at h; rw [h.2]; intro b z; simp at z
  | .int _, _, _, h => by simp only [RV] at h; rw [h.2]; intro b z; simp at z
  | .str _, _, _, h => by simp only [RV] at h; rw [h.2]; intro b z; simp at z
  | .tup xs, _, _, h => by simp only [RV] at h; obtain ⟨_, _, _, _, h⟩ := h; exact RVL.mt h
  | .frz _, _, _, h => by simp only [RV] at h; obtain ⟨_, _, _, _, _, h⟩ := h; rw [h]; intro b z; simp at z
  | .lst xs, _, _, h => by
    simp only [RV] at h
    obtain ⟨a, vs, F', _, e, h, eF⟩ := h
    subst eF
    intro b z
    rcases List.mem_cons.mp z with z | z
    · subst z; exact ⟨_, e, rfl⟩
    · exact RVL.mt h b z
  | .dct kvs, _, _, h => by
    simp only [RV] at h
    obtain ⟨a, ws, F', _, e, h, eF⟩ := h
    subst eF
    intro b z
    rcases List.mem_cons.mp z with z | z
    · subst z
      rcases e with ⟨_, e, _⟩ | ⟨_, e, _⟩ <;> exact ⟨_, e, rfl⟩
    · exact RVD.mt h b z
  | .obj c fs, _, _, h => by
    simp only [RV] at h
    obtain ⟨a, dx, vs, F', _, ⟨_, _, e⟩, e2, h, eF⟩ := h
    subst eF
    intro b z
    rcases List.mem_cons.mp z with z | z
    · subst z; exact ⟨_, e, rfl⟩
    rcases List.mem_cons.mp z with z | z
    · subst z; exact ⟨_, e2, rfl⟩
    · exact RVF.mt h b z
  | .ty _, _, _, h => by simp only [RV] at h; rw [h.2]; intro b z; simp at z
theorem RVL.mt : ∀ {xs : List PV} {vs : List V} {F : List Addr}, RVL K H xs vs F → Mt H F
  | [], _, _, h => by simp only [RVL] at h; rw [h.2]; intro b z; simp at z
  | x :: xs, _, _, h => by
    simp only [RVL] at h
    obtain ⟨_, _, F1, F2, _, h1, h2, e⟩ := h
    subst e
    intro b z
    rcases List.mem_append.mp z with z | z
    · exact RV.mt h1 b z
    · exact RVL.mt h2 b z
theorem RVD.mt : ∀ {xs : List (PV × PV)} {vs : List (PV × V)} {F : List Addr}, RVD K H xs vs F → Mt H F
  | [], _, _, h => by simp only [RVD] at h; rw [h.2]; intro b z; simp at z
  | (k, x) :: xs, _, _, h => by
    simp only [RVD] at h
    obtain ⟨_, _, F1, F2, _, h1, h2, e⟩ := h
    subst e
    intro b z
    rcases List.mem_append.mp z with z | z
    · exact RV.mt h1 b z
    · exact RVD.mt h2 b z
theorem RVF.mt : ∀ {xs : List (Str × PV)} {vs : List (Str × V)} {F : List Addr}, RVF K H xs vs F → Mt H F
  | [], _, _, h => by simp only [RVF] at h; rw [h.2]; intro b z; simp at z
  | (k, x) :: xs, _, _, h => by
    simp only [RVF] at h
    obtain ⟨_, _, F1, F2, _, h1, h2, e⟩ := h
    subst e
    intro b z
    rcases List.mem_append.mp z with z | z
    · exact RV.mt h1 b z
    · exact RVF.mt h2 b z
end

mutual
theorem RV.keep : ∀ {x : PV} {v : V} {F : List Addr}, RV K H x v F → (∀ b o, H b = some o → (b ∈ F ∨ mutO o = false) → H' b = some o) → RV K H' x v F
  | .non, _, _, h, _ => by simp only [RV] at h ⊢; exact h
  | .bl _, _, _, h, _ => by simp only [RV] at h ⊢; exact h
  | .int _, _, _, h, _ => by simp only [RV] at h ⊢; exact h
  | .str _, _, _, h, _ => by simp only [RV] at h ⊢; exact h
  | .tup xs, _, _, h, k => by
    simp only [RV] at h ⊢
    obtain ⟨a, vs, e, q, h⟩ := h
    exact ⟨a, vs, e, SqT.kp q fun b o e m => k b o e (.inr m), RVL.keep h k⟩
  | .frz xs, _, _, h, k => by
    simp only [RV] at h ⊢
    obtain ⟨a, vs, e, q, h, eF⟩ := h
    exact ⟨a, vs, e, SqF.kp q fun b o e m => k b o e (.inr m), RVL.keep h fun b o e m => k b o e (.inr (by
      rcases m with m | m
      · simp at m
      · exact m)), eF⟩
  | .lst xs, _, _, h, k => by
    simp only [RV] at h ⊢
    obtain ⟨a, vs, F', e, q, h, eF⟩ := h
    subst eF
    exact ⟨a, vs, F', e, k _ _ q (.inl List.mem_cons_self), RVL.keep h fun b o e m => k b o e (m.imp (fun z => List.mem_cons_of_mem _ z) id), rfl⟩
  | .dct kvs, _, _, h, k => by
    simp only [RV] at h ⊢
    obtain ⟨a, ws, F', e, q, h, eF⟩ := h
    subst eF
    refine ⟨a, ws, F', e, ?_, RVD.keep h fun b o e m => k b o e (m.imp (fun z => List.mem_cons_of_mem _ z) id), rfl⟩
    rcases q with ⟨vs, q, e2⟩ | ⟨vs, q, e2⟩
    · exact .inl ⟨vs, k _ _ q (.inl List.mem_cons_self), e2⟩
    · exact .inr ⟨vs, k _ _ q (.inl List.mem_cons_self), e2⟩
  | .obj c fs, _, _, h, k => by
    simp only [RV] at h ⊢
    obtain ⟨a, dx, vs, F', e, ⟨C', cC, q⟩, q2, h, eF⟩ := h
    subst eF
    exact ⟨a, dx, vs, F', e, ⟨C', cC, k _ _ q (.inl List.mem_cons_self)⟩, k _ _ q2 (.inl (List.mem_cons_of_mem _ List.mem_cons_self)), RVF.keep h fun b o e m => k b o e (m.imp (fun z => List.mem_cons_of_mem _ (List.mem_cons_of_mem _ z)) id), rfl⟩
  | .ty _, _, _, h, _ => by simp only [RV] at h ⊢; exact h
theorem RVL.keep : ∀ {xs : List PV} {vs : List V} {F : List Addr}, RVL K H xs vs F → (∀ b o, H b = some o → (b ∈ F ∨ mutO o = false) → H' b = some o) → RVL K H' xs vs F
  | [], _, _, h, _ => by simp only [RVL] at h ⊢; exact h
  | x :: xs, _, _, h, k => by
    simp only [RVL] at h ⊢
    obtain ⟨v, vr, F1, F2, e, h1, h2, eF⟩ := h
    subst eF
    exact ⟨v, vr, F1, F2, e, RV.keep h1 fun b o e m => k b o e (m.imp (fun z => List.mem_append_left _ z) id), RVL.keep h2 fun b o e m => k b o e (m.imp (fun z => List.mem_append_right _ z) id), rfl⟩
theorem RVD.keep : ∀ {xs : List (PV × PV)} {vs : List (PV × V)} {F : List Addr}, RVD K H xs vs F → (∀ b o, H b = some o → (b ∈ F ∨ mutO o = false) → H' b = some o) → RVD K H' xs vs F
  | [], _, _, h, _ => by simp only [RVD] at h ⊢; exact h
  | (_, x) :: xs, _, _, h, k => by
    simp only [RVD] at h ⊢
    obtain ⟨v, vr, F1, F2, e, h1, h2, eF⟩ := h
    subst eF
    exact ⟨v, vr, F1, F2, e, RV.keep h1 fun b o e m => k b o e (m.imp (fun z => List.mem_append_left _ z) id), RVD.keep h2 fun b o e m => k b o e (m.imp (fun z => List.mem_append_right _ z) id), rfl⟩
theorem RVF.keep : ∀ {xs : List (Str × PV)} {vs : List (Str × V)} {F : List Addr}, RVF K H xs vs F → (∀ b o, H b = some o → (b ∈ F ∨ mutO o = false) → H' b = some o) → RVF K H' xs vs F
  | [], _, _, h, _ => by simp only [RVF] at h ⊢; exact h
  | (_, x) :: xs, _, _, h, k => by
    simp only [RVF] at h ⊢
    obtain ⟨v, vr, F1, F2, e, h1, h2, eF⟩ := h
    subst eF
    exact ⟨v, vr, F1, F2, e, RV.keep h1 fun b o e m => k b o e (m.imp (fun z => List.mem_append_left _ z) id), RVF.keep h2 fun b o e m => k b o e (m.imp (fun z => List.mem_append_right _ z) id), rfl⟩
end
theorem RV.sm {x : PV} {v : V} {F : List Addr} (h : RV K H x v F) (s : Sm H H') : RV K H' x v F := h.keep fun b o e _ => s b o e
theorem RVL.sm {x : List PV} {v : List V} {F : List Addr} (h : RVL K H x v F) (s : Sm H H') : RVL K H' x v F := h.keep fun b o e _ => s b o e
/-- untouched by what happens in G -/
theorem keep_of {F G : List Addr} (k : Kp G H H') (m : Mt H G) (d : ∀ b ∈ F, b ∉ G) : ∀ b o, H b = some o → (b ∈ F ∨ mutO o = false) → H' b = some o := fun b o e q => k b o (fun z => by
  rcases q with q | q
  · exact d b q z
  · obtain ⟨o', e', m'⟩ := m b z
    rw [e] at e'; cases e'
    rw [q] at m'; cases m') e

theorem RVL.append : ∀ {xs ys : List PV} {vs ws : List V} {F G : List Addr}, RVL K H xs vs F → RVL K H ys ws G → RVL K H (xs ++ ys) (vs ++ ws) (F ++ G)
  | [], ys, vs, ws, F, G, h, g => by simp only [RVL] at h; rw [h.1, h.2]; exact g
  | x :: xs, ys, vs, ws, F, G, h, g => by
    simp only [RVL] at h
    obtain ⟨v, vr, F1, F2, e, h1, h2, eF⟩ := h
    subst eF; subst e
    rw [List.cons_append]
    simp only [RVL]
    exact ⟨v, vr ++ ws, F1, F2 ++ G, rfl, h1, RVL.append h2 g, by rw [List.append_assoc]⟩
theorem RVL.length : ∀ {xs : List PV} {vs : List V} {F : List Addr}, RVL K H xs vs F → vs.length = xs.length
  | [], vs, _, h => by simp only [RVL] at h; rw [h.1]; rfl
  | x :: xs, vs, _, h => by
    simp only [RVL] at h
    obtain ⟨v, vr, F1, F2, e, h1, h2, eF⟩ := h
    subst e
    simp [RVL.length h2]
theorem RVL.one {x : PV} {v : V} {F : List Addr} (h : RV K H x v F) : RVL K H [x] [v] F := by
  simp only [RVL]
  exact ⟨v, [], F, [], rfl, h, ⟨rfl, rfl⟩, by simp⟩
theorem RVL.cons {x : PV} {v : V} {xs : List PV} {vs : List V} {F G : List Addr} (h : RV K H x v F) (g : RVL K H xs vs G) : RVL K H (x :: xs) (v :: vs) (F ++ G) := by
  simp only [RVL]
  exact ⟨v, vs, F, G, rfl, h, g, rfl⟩
theorem RVL.get : ∀ {xs : List PV} {vs : List V} {F : List Addr} {i : Nat} {x : PV}, RVL K H xs vs F → xs[i]? = some x → ∃ v F1, vs[i]? = some v ∧ RV K H x v F1 ∧ ∀ b ∈ F1, b ∈ F
  | [], _, _, i, x, h, e => by simp at e
  | y :: xs, vs, F, 0, x, h, e => by
    simp only [RVL] at h
    obtain ⟨v, vr, F1, F2, e2, h1, h2, eF⟩ := h
    subst e2; subst eF
    simp at e; subst e
    exact ⟨v, F1, rfl, h1, fun b z => List.mem_append_left _ z⟩
  | y :: xs, vs, F, i + 1, x, h, e => by
    simp only [RVL] at h
    obtain ⟨v, vr, F1, F2, e2, h1, h2, eF⟩ := h
    subst e2; subst eF
    obtain ⟨v', F', a, b, c⟩ := RVL.get h2 (by simpa using e)
    exact ⟨v', F', by simpa using a, b, fun q z => List.mem_append_right _ (c q z)⟩
end

/-! ### environments -/
abbrev PEnv := List (Option PV)
def RE (K : PySem.W.Frag) (H : Hp) : PEnv → St → List Addr → Prop
  | [], σ, F => σ = [] ∧ F = []
  | none :: e, σ, F => ∃ y r, σ = y :: r ∧ RE K H e r F
  | some x :: e, σ, F => ∃ v r F1 F2, σ = some v :: r ∧ RV K H x v F1 ∧ RE K H e r F2 ∧ F = F1 ++ F2

section
variable {K : PySem.W.Frag} {H H' : Hp}
theorem RE.len : ∀ {env : PEnv} {σ : St} {F : List Addr}, RE K H env σ F → σ.length = env.length
  | [], _, _, h => by simp only [RE] at h; rw [h.1]; rfl
  | none :: e, _, _, h => by simp only [RE] at h; obtain ⟨y, r, rfl, h⟩ := h; simp [RE.len h]
  | some x :: e, _, _, h => by simp only [RE] at h; obtain ⟨v, r, F1, F2, rfl, _, h, _⟩ := h; simp [RE.len h]
theorem RE.mt : ∀ {env : PEnv} {σ : St} {F : List Addr}, RE K H env σ F → Mt H F
  | [], _, _, h => by simp only [RE] at h; rw [h.2]; intro b z; simp at z
  | none :: e, _, _, h => by simp only [RE] at h; obtain ⟨y, r, _, h⟩ := h; exact RE.mt h
  | some x :: e, _, _, h => by
    simp only [RE] at h
    obtain ⟨v, r, F1, F2, _, h1, h2, eF⟩ := h
    subst eF
    intro b z
    rcases List.mem_append.mp z with z | z
    · exact h1.mt b z
    · exact RE.mt h2 b z
theorem RE.keep : ∀ {env : PEnv} {σ : St} {F : List Addr}, RE K H env σ F → (∀ b o, H b = some o → (b ∈ F ∨ mutO o = false) → H' b = some o) → RE K H' env σ F
  | [], _, _, h, _ => by simp only [RE] at h ⊢; exact h
  | none :: e, _, _, h, k => by simp only [RE] at h ⊢; obtain ⟨y, r, e1, h⟩ := h; exact ⟨y, r, e1, RE.keep h k⟩
  | some x :: e, _, _, h, k => by
    simp only [RE] at h ⊢
    obtain ⟨v, r, F1, F2, e1, h1, h2, eF⟩ := h
    subst eF
    exact ⟨v, r, F1, F2, e1, h1.keep fun b o e m => k b o e (m.imp (fun z => List.mem_append_left _ z) id), RE.keep h2 fun b o e m => k b o e (m.imp (fun z => List.mem_append_right _ z) id), rfl⟩
theorem RE.sm {env : PEnv} {σ : St} {F : List Addr} (h : RE K H env σ F) (s : Sm H H') : RE K H' env σ F := h.keep fun b o e _ => s b o e
/-- a slot's value, read -/
theorem RE.get : ∀ {env : PEnv} {σ : St} {F : List Addr} {i : Nat} {x : PV}, RE K H env σ F → env[i]? = some (some x) → ∃ v F1, σ[i]? = some (some v) ∧ RV K H x v F1
  | [], _, _, i, x, h, e => by simp at e
  | none :: r, σ, F, 0, x, h, e => by simp at e
  | none :: r, σ, F, i + 1, x, h, e => by
    simp only [RE] at h
    obtain ⟨y, s, rfl, h⟩ := h
    obtain ⟨v, F1, a, b⟩ := RE.get h (by simpa using e)
    exact ⟨v, F1, by simpa using a, b⟩
  | some y :: r, σ, F, 0, x, h, e => by
    simp only [RE] at h
    obtain ⟨v, s, F1, F2, rfl, h1, _, _⟩ := h
    simp at e; subst e
    exact ⟨v, F1, rfl, h1⟩
  | some y :: r, σ, F, i + 1, x, h, e => by
    simp only [RE] at h
    obtain ⟨v, s, F1, F2, rfl, _, h2, _⟩ := h
    obtain ⟨v, F1, a, b⟩ := RE.get h2 (by simpa using e)
    exact ⟨v, F1, by simpa using a, b⟩
/-- a slot's value, taken out -/
theorem RE.take : ∀ {env : PEnv} {σ : St} {F : List Addr} {i : Nat} {x : PV}, RE K H env σ F → env[i]? = some (some x) → ∃ v F1 F2, σ[i]? = some (some v) ∧ RV K H x v F1 ∧ RE K H (env.set i none) σ F2 ∧ F.Perm (F1 ++ F2)
  | [], _, _, i, x, h, e => by simp at e
  | none :: r, σ, F, 0, x, h, e => by simp at e
  | none :: r, σ, F, i + 1, x, h, e => by
    simp only [RE] at h
    obtain ⟨y, s, rfl, h⟩ := h
    obtain ⟨v, F1, F2, a, b, c, d⟩ := RE.take h (by simpa using e)
    exact ⟨v, F1, F2, by simpa using a, b, by simp only [List.set_cons_succ, RE]; exact ⟨y, s, rfl, c⟩, d⟩
  | some y :: r, σ, F, 0, x, h, e => by
    simp only [RE] at h
    obtain ⟨v, s, F1, F2, rfl, h1, h2, eF⟩ := h
    simp at e; subst e
    exact ⟨v, F1, F2, rfl, h1, by simp only [List.set_cons_zero, RE]; exact ⟨_, s, rfl, h2⟩, by rw [eF]⟩
  | some y :: r, σ, F, i + 1, x, h, e => by
    simp only [RE] at h
    obtain ⟨v0, s, G1, G2, rfl, g1, h2, eF⟩ := h
    obtain ⟨v, F1, F2, a, b, c, d⟩ := RE.take h2 (by simpa using e)
    refine ⟨v, F1, G1 ++ F2, by simpa using a, b, ?_, ?_⟩
    · simp only [List.set_cons_succ, RE]; exact ⟨v0, s, G1, F2, rfl, g1, c, rfl⟩
    · rw [eF]
      refine (List.Perm.append_left G1 d).trans ?_
      rw [← List.append_assoc, ← List.append_assoc]
      exact List.Perm.append_right F2 List.perm_append_comm
/-- .. put (back) into an empty slot: the slot of σ holds v -/
theorem RE.put : ∀ {env : PEnv} {σ : St} {F G : List Addr} {i : Nat} {x : PV} {v : V}, RE K H (env.set i none) σ F → i < env.length → σ[i]? = some (some v) → RV K H x v G → ∃ F', RE K H (env.set i (some x)) σ F' ∧ F'.Perm (G ++ F)
  | [], _, _, _, i, x, v, h, l, _, _ => by simp at l
  | y :: r, σ, F, G, 0, x, v, h, l, e, g => by
    simp only [List.set_cons_zero, RE] at h
    obtain ⟨z, s, rfl, h⟩ := h
    simp at e; subst e
    exact ⟨G ++ F, by simp only [List.set_cons_zero, RE]; exact ⟨v, s, G, F, rfl, g, h, rfl⟩, .refl _⟩
  | none :: r, σ, F, G, i + 1, x, v, h, l, e, g => by
    simp only [List.set_cons_succ, RE] at h
    obtain ⟨z, s, rfl, h⟩ := h
    obtain ⟨F', a, b⟩ := RE.put h (by simpa using l) (by simpa using e) g
    exact ⟨F', by simp only [List.set_cons_succ, RE]; exact ⟨z, s, rfl, a⟩, b⟩
  | some y :: r, σ, F, G, i + 1, x, v, h, l, e, g => by
    simp only [List.set_cons_succ, RE] at h
    obtain ⟨z, s, F1, F2, rfl, h1, h2, eF⟩ := h
    obtain ⟨F', a, b⟩ := RE.put h2 (by simpa using l) (by simpa using e) g
    refine ⟨F1 ++ F', by simp only [List.set_cons_succ, RE]; exact ⟨z, s, F1, F', rfl, h1, a, rfl⟩, ?_⟩
    rw [eF]
    refine (List.Perm.append_left F1 b).trans ?_
    rw [← List.append_assoc, ← List.append_assoc]
    exact List.Perm.append_right F2 List.perm_append_comm
/-- a slot is forgotten, whatever it held -/
theorem RE.forget : ∀ {env : PEnv} {σ : St} {F : List Addr} {i : Nat}, RE K H env σ F → ∃ F', RE K H (env.set i none) σ F' ∧ F'.Sublist F
  | [], _, F, i, h => ⟨F, by simpa using h, .refl _⟩
  | none :: r, σ, F, 0, h => ⟨F, by simpa using h, .refl _⟩
  | some y :: r, σ, F, 0, h => by
    simp only [RE] at h
    obtain ⟨v, s, F1, F2, rfl, h1, h2, eF⟩ := h
    exact ⟨F2, by simp only [List.set_cons_zero, RE]; exact ⟨_, s, rfl, h2⟩, by rw [eF]; exact List.sublist_append_right _ _⟩
  | none :: r, σ, F, i + 1, h => by
    simp only [RE] at h
    obtain ⟨y, s, rfl, h⟩ := h
    obtain ⟨F', a, b⟩ := RE.forget (i := i) h
    exact ⟨F', by simp only [List.set_cons_succ, RE]; exact ⟨y, s, rfl, a⟩, b⟩
  | some y :: r, σ, F, i + 1, h => by
    simp only [RE] at h
    obtain ⟨v, s, F1, F2, rfl, h1, h2, eF⟩ := h
    obtain ⟨F', a, b⟩ := RE.forget (i := i) h2
    exact ⟨F1 ++ F', by simp only [List.set_cons_succ, RE]; exact ⟨v, s, F1, F', rfl, h1, a, rfl⟩, by rw [eF]; exact List.Sublist.append (List.Sublist.refl F1) b⟩
/-- .. an empty slot of env: σ's value there is free -/
theorem RE.anySlot : ∀ {env : PEnv} {σ : St} {F : List Addr} {i : Nat} {y : Option V}, RE K H (env.set i none) σ F → RE K H (env.set i none) (σ.set i y) F
  | [], σ, F, i, y, h => by simp only [List.set_nil, RE] at h ⊢; simp [h.1, h.2]
  | x :: r, σ, F, 0, y, h => by
    simp only [List.set_cons_zero, RE] at h ⊢
    obtain ⟨z, s, rfl, h⟩ := h
    exact ⟨y, s, rfl, h⟩
  | none :: r, σ, F, i + 1, y, h => by
    simp only [List.set_cons_succ, RE] at h ⊢
    obtain ⟨z, s, rfl, h⟩ := h
    exact ⟨z, s.set i y, rfl, RE.anySlot h⟩
  | some x :: r, σ, F, i + 1, y, h => by
    simp only [List.set_cons_succ, RE] at h ⊢
    obtain ⟨z, s, F1, F2, rfl, h1, h2, eF⟩ := h
    exact ⟨z, s.set i y, F1, F2, rfl, h1, RE.anySlot h2, eF⟩
/-- a value is stored in a slot -/
theorem RE.store {env : PEnv} {σ : St} {F G : List Addr} {i : Nat} {x : PV} {v : V} (h : RE K H env σ F) (l : i < env.length) (g : RV K H x v G) : ∃ F', RE K H (env.set i (some x)) (σ.set i (some v)) F' ∧ ∃ F1, F1.Sublist F ∧ F'.Perm (G ++ F1) := by
  obtain ⟨F1, a, b⟩ := RE.forget (i := i) h
  have a2 := RE.anySlot (y := some v) a
  obtain ⟨F', c, d⟩ := RE.put a2 l (by rw [List.getElem?_set_self (by rw [h.len]; exact l)]) g
  exact ⟨F', c, F1, b, d⟩
end
theorem nodup_of_perm {l m : List Addr} (h : l.Perm m) (n : m.Nodup) : l.Nodup := h.nodup_iff.mpr n
end PVL

/-! P2: outcomes, judgements for expressions, arguments, tests; composition. -/
namespace PVL
open PySem PySem.Spec L2

/-- an exception, purely: the name of its class, its fields -/
structure PX where
  cls : Str
  fs : List (Str × PV)
/-- an outcome beside an environment -/
inductive EO (α : Type) where
  | ok (a : α) (env : PEnv)
  | exc (x : PX) (env : PEnv)
  | bad
abbrev EM := PEnv → EO PV
abbrev BM := PEnv → EO Bool
abbrev RM := PEnv → Option PV
inductive Arg where
  | own (x : PV)
  | ref (i : Nat)
abbrev GM := PEnv → EO Arg
abbrev AM := PEnv → EO (List Arg)
def EO.bind {α β : Type} (x : EO α) (f : α → PEnv → EO β) : EO β := match x with
  | .ok a e => f a e
  | .exc x e => .exc x e
  | .bad => .bad
@[simp] theorem EO.bind_ok {α β : Type} (a : α) (e : PEnv) (f : α → PEnv → EO β) : (EO.ok a e).bind f = f a e := rfl
@[simp] theorem EO.bind_exc {α β : Type} (x : PX) (e : PEnv) (f : α → PEnv → EO β) : (EO.exc x e : EO α).bind f = .exc x e := rfl
@[simp] theorem EO.bind_bad {α β : Type} (f : α → PEnv → EO β) : (EO.bad : EO α).bind f = .bad := rfl

/-- how an exception lies: its class by the module's name, its fields in its own dict -/
def RX (K : PySem.W.Frag) (mg : Str → Option Value) (x : PX) (cls : Value) (d : Option Addr) (H : Hp) : Prop :=
  mg x.cls = some cls ∧ (x.fs = [] ∨ ∃ dd vs, d = some dd ∧ H dd = some (.xd vs) ∧ RVF K H x.fs vs [])

section
variable (K : PySem.W.Frag) (mg : Str → Option Value) (W : WX)
def PostE {α : Type} (σ : L2.St) (H : Hp) (F : List Addr) (R : α → PEnv → Prop) : EO α → Prop
  | .ok a env' => R a env'
  | .exc x env' => ∀ cls d H' F', RE K H' env' σ F' → F'.Nodup → Fm F H F' H' → RX K mg x cls d H' → W cls d σ H'
  | .bad => False
/-- an expression by an effectful pure function: what comes is owned -/
def ImE (t : TE) (m : EM) : Prop := ∀ σ H Q env F, RE K H env σ F → F.Nodup →
  PostE K mg W σ H F (fun pv env' => ∀ v H' Fv F', RE K H' env' σ F' → RV K H' pv v Fv → (Fv ++ F').Nodup → Fm F H (Fv ++ F') H' → Q v H') (m env) → t σ H Q
/-- an argument's value -/
def RG (H : Hp) (σ : L2.St) : Arg → V → List Addr → Prop
  | .own x, v, F => RV K H x v F
  | .ref i, v, F => σ[i]? = some (some v) ∧ F = []
def RGs (H : Hp) (σ : L2.St) : List Arg → List V → List Addr → Prop
  | [], vs, F => vs = [] ∧ F = []
  | a :: r, vs, F => ∃ v vr F1 F2, vs = v :: vr ∧ RG K H σ a v F1 ∧ RGs H σ r vr F2 ∧ F = F1 ++ F2
def ImG (t : TE) (m : GM) : Prop := ∀ σ H Q env F, RE K H env σ F → F.Nodup →
  PostE K mg W σ H F (fun a env' => ∀ v H' Fv F', RE K H' env' σ F' → RG K H' σ a v Fv → (Fv ++ F').Nodup → Fm F H (Fv ++ F') H' → Q v H') (m env) → t σ H Q
def ImA (t : TA) (m : AM) : Prop := ∀ σ H Q env F, RE K H env σ F → F.Nodup →
  PostE K mg W σ H F (fun as env' => ∀ vs H' Fv F', RE K H' env' σ F' → RGs K H' σ as vs Fv → (Fv ++ F').Nodup → Fm F H (Fv ++ F') H' → Q vs H') (m env) → t σ H Q
def ImT (t : TT) (m : BM) : Prop := ∀ σ H Q env F, RE K H env σ F → F.Nodup →
  PostE K mg W σ H F (fun b env' => ∀ H' F', RE K H' env' σ F' → F'.Nodup → Fm F H F' H' → Q b H') (m env) → t σ H Q
/-- an expression that only reads: what comes may be a part of what is held -/
def ImR (t : TE) (m : RM) : Prop := ∀ σ H Q env F, RE K H env σ F →
  (match m env with | some pv => ∀ v H' Fv, Sm H H' → RV K H' pv v Fv → Q v H' | none => False) → t σ H Q
end

section
variable {K : PySem.W.Frag} {mg : Str → Option Value} {W : WX}
theorem RG.mt {H : Hp} {σ : L2.St} : ∀ {a : Arg} {v : V} {F : List Addr}, RG K H σ a v F → Mt H F
  | .own _, _, _, h => RV.mt h
  | .ref _, _, _, h => by rw [h.2]; intro b z; simp at z
theorem RG.keep {H H' : Hp} {σ : L2.St} : ∀ {a : Arg} {v : V} {F : List Addr}, RG K H σ a v F → (∀ b o, H b = some o → (b ∈ F ∨ mutO o = false) → H' b = some o) → RG K H' σ a v F
  | .own _, _, _, h, k => RV.keep h k
  | .ref _, _, _, h, _ => h
theorem RGs.mt {H : Hp} {σ : L2.St} : ∀ {as : List Arg} {vs : List V} {F : List Addr}, RGs K H σ as vs F → Mt H F
  | [], _, _, h => by simp only [RGs] at h; rw [h.2]; intro b z; simp at z
  | a :: r, _, _, h => by
    simp only [RGs] at h
    obtain ⟨v, vr, F1, F2, _, h1, h2, e⟩ := h
    subst e
    intro b z
    rcases List.mem_append.mp z with z | z
    · exact h1.mt b z
    · exact RGs.mt h2 b z
theorem RGs.keep {H H' : Hp} {σ : L2.St} : ∀ {as : List Arg} {vs : List V} {F : List Addr}, RGs K H σ as vs F → (∀ b o, H b = some o → (b ∈ F ∨ mutO o = false) → H' b = some o) → RGs K H' σ as vs F
  | [], _, _, h, _ => by simp only [RGs] at h ⊢; exact h
  | a :: r, _, _, h, k => by
    simp only [RGs] at h ⊢
    obtain ⟨v, vr, F1, F2, e1, h1, h2, e⟩ := h
    subst e
    exact ⟨v, vr, F1, F2, e1, h1.keep fun b o e m => k b o e (m.imp (fun z => List.mem_append_left _ z) id), RGs.keep h2 fun b o e m => k b o e (m.imp (fun z => List.mem_append_right _ z) id), rfl⟩

/-- a later stand: from (F, H) to (F1, H1) -/
theorem PostE.later {α : Type} {σ : L2.St} {H H1 : Hp} {F F1 : List Addr} {R R' : α → PEnv → Prop} (f : Fm F H F1 H1) {o : EO α} (h : PostE K mg W σ H F R o) (r : ∀ a e, R a e → R' a e) : PostE K mg W σ H1 F1 R' o := by
  cases o with
  | ok a e => exact r a e h
  | exc x e => exact fun cls d H' F' h1 h2 h3 h4 => h cls d H' F' h1 h2 (f.trans h3) h4
  | bad => exact h
theorem PostE.bind {α β : Type} {σ : L2.St} {H : Hp} {F : List Addr} {R : β → PEnv → Prop} {o : EO α} {f : α → PEnv → EO β} (h : PostE K mg W σ H F R (o.bind f)) : PostE K mg W σ H F (fun a e => PostE K mg W σ H F R (f a e)) o := by
  cases o with
  | ok a e => exact h
  | exc x e => exact h
  | bad => exact h
theorem PostE.imp {α : Type} {σ : L2.St} {H : Hp} {F : List Addr} {R R' : α → PEnv → Prop} {o : EO α} (h : PostE K mg W σ H F R o) (r : ∀ a e, R a e → R' a e) : PostE K mg W σ H F R' o := h.later Fm.refl r

theorem fm_left {F H H' : _} {Fv F' : List Addr} (f : Fm F H (Fv ++ F') H') : Fm F H F' H' := f.sub fun _ z => List.mem_append_right _ z
theorem nd_right {Fv F' : List Addr} (n : (Fv ++ F').Nodup) : F'.Nodup := (List.nodup_append.mp n).2.1
theorem nd_dis {Fv F' : List Addr} (n : (Fv ++ F').Nodup) : ∀ b ∈ Fv, b ∉ F' := fun b h1 h2 => (List.nodup_append.mp n).2.2 b h1 b h2 rfl
/-- what is fresh behind stands apart from what stood apart -/
theorem nd_later {H1 H2 : Hp} {Fv F1 G : List Addr} (n : (Fv ++ F1).Nodup) (mt : Mt H1 Fv) (f : Fm F1 H1 G H2) (g : G.Nodup) : (Fv ++ G).Nodup := by
  rw [List.nodup_append] at n ⊢
  refine ⟨n.1, g, fun a h1 b h2 e => ?_⟩
  subst e
  rcases f.fr a h2 with z | z
  · exact n.2.2 a h1 a z rfl
  · obtain ⟨o, e, _⟩ := mt a h1
    rw [e] at z; cases z
theorem keep_ap {H1 H2 : Hp} {Fv F1 G : List Addr} (n : (Fv ++ F1).Nodup) (mt : Mt H1 F1) (f : Fm F1 H1 G H2) : ∀ b o, H1 b = some o → (b ∈ Fv ∨ mutO o = false) → H2 b = some o := keep_of f.kp mt (nd_dis n)
/-- the frame of an owned value ahead, an owned value behind -/
theorem fm_both {H H1 H2 : Hp} {F Fv F1 G : List Addr} (f : Fm F H (Fv ++ F1) H1) (g : Fm F1 H1 G H2) (mt : Mt H1 Fv) : Fm F H (Fv ++ G) H2 where
  kp := ((fm_left f).trans g).kp
  fr := fun b z => by
    rcases List.mem_append.mp z with z | z
    · exact f.fr b (List.mem_append_left _ z)
    · exact ((fm_left f).trans g).fr b z

/-! ### arguments -/
def gRef (i : Nat) : GM := fun env => match env[i]? with
  | some (some _) => .ok (.ref i) env
  | _ => .bad
theorem im_gRef (i : Nat) : ImG K mg W (tVar i) (gRef i) := by
  intro σ H Q env F hr hn hp
  unfold gRef at hp
  split at hp
  · rename_i x e
    obtain ⟨v, F1, e1, _⟩ := hr.get e
    exact ⟨v, e1, hp v H [] F hr ⟨e1, rfl⟩ hn Fm.refl⟩
  · exact hp.elim
def gOwn (m : EM) : GM := fun env => (m env).bind fun x e => .ok (.own x) e
theorem im_gOwn {t : TE} {m : EM} (h : ImE K mg W t m) : ImG K mg W t (gOwn m) := by
  intro σ H Q env F hr hn hp
  exact h σ H Q env F hr hn (hp.bind.imp fun pv env' q => q)
def aNil : AM := fun env => .ok [] env
theorem im_aNil : ImA K mg W tNil aNil := by
  intro σ H Q env F hr hn hp
  exact hp [] H [] F hr ⟨rfl, rfl⟩ hn Fm.refl
def aCons (g : GM) (a : AM) : AM := fun env => (g env).bind fun x e => (a e).bind fun r e2 => .ok (x :: r) e2
theorem im_aCons {tg : TE} {ta : TA} {g : GM} {a : AM} (hg : ImG K mg W tg g) (ha : ImA K mg W ta a) : ImA K mg W (tCons tg ta) (aCons g a) := by
  intro σ H Q env F hr hn hp
  refine hg σ H _ env F hr hn (hp.bind.imp fun x e1 q1 v H1 Fv F1 hr1 hx hn1 hf1 => ?_)
  refine ha σ H1 _ e1 F1 hr1 (nd_right hn1) ((q1.bind.later (fm_left hf1)) fun r e2 q2 vs H2 Gv F2 hr2 hs hn2 hf2 => ?_)
  have hx2 := hx.keep (keep_ap hn1 hr1.mt hf2)
  refine q2 (v :: vs) H2 (Fv ++ Gv) F2 hr2 ⟨v, vs, Fv, Gv, rfl, hx2, hs, rfl⟩ ?_ ?_
  · rw [List.append_assoc]; exact nd_later hn1 hx.mt hf2 hn2
  · rw [List.append_assoc]; exact fm_both hf1 hf2 hx.mt

/-- owned arguments alone -/
def ownL : List Arg → Option (List PV)
  | [] => some []
  | .own x :: r => (ownL r).map (x :: ·)
  | .ref _ :: _ => none
theorem ownL_ok {H : Hp} {σ : L2.St} : ∀ {as : List Arg} {vs : List V} {F : List Addr} {xs : List PV}, RGs K H σ as vs F → ownL as = some xs → RVL K H xs vs F
  | [], _, _, xs, h, e => by
    simp only [RGs] at h
    simp only [ownL, Option.some.injEq] at e
    subst e
    simp only [RVL]; exact h
  | .own x :: r, _, _, xs, h, e => by
    simp only [RGs, RG] at h
    obtain ⟨v, vr, F1, F2, e1, h1, h2, e2⟩ := h
    simp only [ownL, Option.map_eq_some_iff] at e
    obtain ⟨ys, e3, e4⟩ := e
    subst e4
    simp only [RVL]
    exact ⟨v, vr, F1, F2, e1, h1, ownL_ok h2 e3, e2⟩
  | .ref _ :: _, _, _, xs, h, e => by simp [ownL] at e
/-- an argument as it is read -/
def seeG (env : PEnv) : Arg → Option PV
  | .own x => some x
  | .ref i => (env[i]?).join
theorem seeG_ok {H : Hp} {σ : L2.St} {env : PEnv} {G : List Addr} (hr : RE K H env σ G) : ∀ {a : Arg} {v : V} {F : List Addr} {x : PV}, RG K H σ a v F → seeG env a = some x → ∃ F', RV K H x v F'
  | .own x, v, F, y, h, e => by
    simp only [seeG, Option.some.injEq] at e
    subst e
    exact ⟨F, h⟩
  | .ref i, v, F, y, h, e => by
    simp only [seeG, Option.join_eq_some_iff] at e
    obtain ⟨v', F1, e1, h1⟩ := hr.get e
    rw [h.1] at e1
    cases e1
    exact ⟨F1, h1⟩
def seeL (env : PEnv) : List Arg → Option (List PV)
  | [] => some []
  | a :: r => (seeG env a).bind fun x => (seeL env r).map (x :: ·)
/-- read, borrowed -/
def RB (K : PySem.W.Frag) (H : Hp) : List PV → List V → Prop
  | [], vs => vs = []
  | x :: r, vs => ∃ v vr F, vs = v :: vr ∧ RV K H x v F ∧ RB K H r vr
theorem seeL_ok {H : Hp} {σ : L2.St} {env : PEnv} {G : List Addr} (hr : RE K H env σ G) : ∀ {as : List Arg} {vs : List V} {F : List Addr} {xs : List PV}, RGs K H σ as vs F → seeL env as = some xs → RB K H xs vs
  | [], _, _, xs, h, e => by
    simp only [RGs] at h
    simp only [seeL, Option.some.injEq] at e
    subst e
    exact h.1
  | a :: r, _, _, xs, h, e => by
    simp only [RGs] at h
    obtain ⟨v, vr, F1, F2, e1, h1, h2, e2⟩ := h
    simp only [seeL, Option.bind_eq_some_iff, Option.map_eq_some_iff] at e
    obtain ⟨x, ex, ys, ey, e4⟩ := e
    subst e4
    obtain ⟨F', hx⟩ := seeG_ok hr h1 ex
    exact ⟨v, vr, F', e1, hx, seeL_ok hr h2 ey⟩

/-! ### values by rules: what comes is new, or has no mutable part -/
/-- the promise of a fresh value -/
def New (K : PySem.W.Frag) (H : Hp) (Q : VK) (z : PV) : Prop := ∀ v H' Fz, Sm H H' → RV K H' z v Fz → Fz.Nodup → Fr H Fz → Q v H'
def NewO (K : PySem.W.Frag) (H : Hp) (Q : VK) : Option PV → Prop
  | some z => New K H Q z
  | none => False
def SimR2 (K : PySem.W.Frag) (r : R2) (f : PV → PV → Option PV) : Prop := ∀ x y H Q px py Fx Fy, RV K H px x Fx → RV K H py y Fy → NewO K H Q (f px py) → r x y H Q
def SimU (K : PySem.W.Frag) (r : V → Hp → VK → Prop) (f : PV → Option PV) : Prop := ∀ x H Q px Fx, RV K H px x Fx → NewO K H Q (f px) → r x H Q
def SimL (K : PySem.W.Frag) (r : List V → Hp → VK → Prop) (f : List PV → Option PV) : Prop := ∀ xs H Q ps, RB K H ps xs → NewO K H Q (f ps) → r xs H Q
/-- .. a part of what is read -/
def OldO (K : PySem.W.Frag) (H : Hp) (Q : VK) : Option PV → Prop
  | some z => ∀ v H' Fz, Sm H H' → RV K H' z v Fz → Q v H'
  | none => False
def SimB2 (K : PySem.W.Frag) (r : R2) (f : PV → PV → Option PV) : Prop := ∀ x y H Q px py Fx Fy, RV K H px x Fx → RV K H py y Fy → OldO K H Q (f px py) → r x y H Q
theorem OldO.new {H : Hp} {Q : VK} {o : Option PV} (h : OldO K H Q o) : NewO K H Q o := by
  cases o with
  | none => exact h
  | some z => exact fun v H' Fz s r _ _ => h v H' Fz s r
theorem SimR2.b {r : R2} {f : PV → PV → Option PV} (h : SimR2 K r f) : SimB2 K r f := fun x y H Q px py Fx Fy h1 h2 q => h x y H Q px py Fx Fy h1 h2 q.new
/-- .. but only if it has no mutable part -/
def immO (o : Option PV) : Option PV := match o with
  | some z => if z.imm = true then some z else none
  | none => none
theorem immO_old {H : Hp} {Q : VK} {o : Option PV} (h : NewO K H Q (immO o)) : OldO K H Q o := by
  cases o with
  | none => exact h
  | some z =>
    unfold immO at h
    by_cases hz : z.imm = true
    · simp only [hz, if_true] at h
      intro v H' Fz s r
      have e := RV.imm hz r
      subst e
      exact h v H' [] s r List.nodup_nil (fun b z => by simp at z)
    · simp only [hz] at h
      exact h.elim
theorem SimB2.i {r : R2} {f : PV → PV → Option PV} (h : SimB2 K r f) : SimR2 K r (fun x y => immO (f x y)) := fun x y H Q px py Fx Fy h1 h2 q => h x y H Q px py Fx Fy h1 h2 (immO_old q)

def ofO (o : Option PV) (e : PEnv) : EO PV := match o with
  | some z => .ok z e
  | none => .bad
@[simp] theorem ofO_some (z : PV) (e : PEnv) : ofO (some z) e = .ok z e := rfl
@[simp] theorem ofO_none (e : PEnv) : ofO none e = .bad := rfl
/-- the end of a rule by values -/
theorem fin_new {σ : L2.St} {H H1 : Hp} {F F1 : List Addr} {env : PEnv} {Q : VK} {o : Option PV} (hr : RE K H1 env σ F1) (hn : F1.Nodup) (f : Fm F H F1 H1)
    (hp : PostE K mg W σ H F (fun pv env' => ∀ v H' Fv F', RE K H' env' σ F' → RV K H' pv v Fv → (Fv ++ F').Nodup → Fm F H (Fv ++ F') H' → Q v H') (ofO o env)) : NewO K H1 Q o := by
  cases o with
  | none => exact hp
  | some z =>
    intro v H' Fz s r nz fz
    refine hp v H' Fz F1 (hr.sm s) r ?_ ?_
    · rw [List.nodup_append]
      refine ⟨nz, hn, fun a h1 b h2 e => ?_⟩
      subst e
      obtain ⟨ob, e, _⟩ := hr.mt a h2
      rw [fz a h1] at e; cases e
    · refine f.trans (Fm.of_sm s fun b z => ?_)
      rcases List.mem_append.mp z with z | z
      · exact .inr (fz b z)
      · exact .inl z
/-- two operands -/
def eOp (f : PV → PV → Option PV) (a b : GM) : EM := fun env => (a env).bind fun x e1 => (b e1).bind fun y e2 =>
  ofO ((seeG e2 x).bind fun p => (seeG e2 y).bind fun q => f p q) e2
theorem im_op {r : R2} {f : PV → PV → Option PV} {ta tb : TE} {a b : GM} (hs : SimR2 K r f) (ha : ImG K mg W ta a) (hb : ImG K mg W tb b) : ImE K mg W (tOp r ta tb) (eOp f a b) := by
  intro σ H Q env F hr hn hp
  refine ha σ H _ env F hr hn (hp.bind.imp fun x e1 q1 v H1 Fv F1 hr1 hx hn1 hf1 => ?_)
  refine hb σ H1 _ e1 F1 hr1 (nd_right hn1) ((q1.bind.later (fm_left hf1)) fun y e2 q2 u H2 Gv F2 hr2 hy hn2 hf2 => ?_)
  have hx2 := hx.keep (keep_ap hn1 hr1.mt hf2)
  cases ex : seeG e2 x with
  | none => rw [ex] at q2; exact q2.elim
  | some p =>
    cases ey : seeG e2 y with
    | none => rw [ex, ey] at q2; exact q2.elim
    | some q =>
      rw [ex, ey] at q2
      obtain ⟨Fx, rx⟩ := seeG_ok hr2 hx2 ex
      obtain ⟨Fy, ry⟩ := seeG_ok hr2 hy ey
      exact hs v u H2 Q p q Fx Fy rx ry (fin_new hr2 (nd_right hn2) (fm_left hf2) (q2.later (fm_left hf1) fun _ _ z v' H' Fv' F' a b c d => z v' H' Fv' F' a b c ((fm_left hf1).trans d)))
def eUn (f : PV → Option PV) (a : GM) : EM := fun env => (a env).bind fun x e1 => ofO ((seeG e1 x).bind f) e1
theorem im_un {r : V → Hp → VK → Prop} {f : PV → Option PV} {ta : TE} {a : GM} (hs : SimU K r f) (ha : ImG K mg W ta a) : ImE K mg W (tUn r ta) (eUn f a) := by
  intro σ H Q env F hr hn hp
  refine ha σ H _ env F hr hn (hp.bind.imp fun x e1 q1 v H1 Fv F1 hr1 hx hn1 hf1 => ?_)
  cases ex : seeG e1 x with
  | none => rw [ex] at q1; exact q1.elim
  | some p =>
    rw [ex] at q1
    obtain ⟨Fx, rx⟩ := seeG_ok hr1 hx ex
    exact hs v H1 Q p Fx rx (fin_new hr1 (nd_right hn1) (fm_left hf1) q1)
/-- a call by values (of a builtin, a type) -/
def eCl (f : List PV → Option PV) (a : AM) : EM := fun env => (a env).bind fun as e1 => ofO ((seeL e1 as).bind f) e1
theorem im_cl {r : List V → Hp → VK → Prop} {f : List PV → Option PV} {ta : TA} {a : AM} (hs : SimL K r f) (ha : ImA K mg W ta a) : ImE K mg W (fun σ H Q => ta σ H fun vs H1 => r vs H1 Q) (eCl f a) := by
  intro σ H Q env F hr hn hp
  refine ha σ H _ env F hr hn (hp.bind.imp fun as e1 q1 vs H1 Fv F1 hr1 hx hn1 hf1 => ?_)
  cases ex : seeL e1 as with
  | none => rw [ex] at q1; exact q1.elim
  | some ps =>
    rw [ex] at q1
    exact hs vs H1 Q ps (seeL_ok hr1 hx ex) (fin_new hr1 (nd_right hn1) (fm_left hf1) q1)

/-! ### reading alone -/
def rVar (i : Nat) : RM := fun env => (env[i]?).join
theorem im_rVar (i : Nat) : ImR K (tVar i) (rVar i) := by
  intro σ H Q env F hr hp
  unfold rVar at hp
  split at hp
  · rename_i pv e
    rw [Option.join_eq_some_iff] at e
    obtain ⟨v, F1, e1, h1⟩ := hr.get e
    exact ⟨v, e1, hp v H F1 (fun _ _ z => z) h1⟩
  · exact hp.elim
def rC (x : PV) : RM := fun _ => some x
def constV : PV → Option V
  | .non => some .non
  | .bl b => some (.bl b)
  | .int i => some (.int i)
  | .str x => some (.str x)
  | _ => none
theorem constV_ok {H : Hp} {x : PV} {v : V} (h : constV x = some v) : RV K H x v [] := by
  cases x <;> simp [constV] at h <;> subst h <;> simp [RV]
theorem im_rC {x : PV} {v : V} (h : constV x = some v := by rfl) : ImR K (tC v) (rC x) := by
  intro σ H Q env F hr hp
  exact hp v H [] (fun _ _ z => z) (constV_ok h)
def rOp (f : PV → PV → Option PV) (a b : RM) : RM := fun env => (a env).bind fun x => (b env).bind fun y => f x y
theorem im_rOp {r : R2} {f : PV → PV → Option PV} {ta tb : TE} {a b : RM} (hs : SimB2 K r f) (ha : ImR K ta a) (hb : ImR K tb b) : ImR K (tOp r ta tb) (rOp f a b) := by
  intro σ H Q env F hr hp
  unfold rOp at hp
  refine ha σ H _ env F hr ?_
  cases ea : a env with
  | none => rw [ea] at hp; exact hp
  | some x =>
    rw [ea] at hp
    intro v H1 Fv s1 rx
    refine hb σ H1 _ env F (hr.sm s1) ?_
    cases eb : b env with
    | none => rw [eb] at hp; exact hp
    | some y =>
      rw [eb] at hp
      intro u H2 Fu s2 ry
      refine hs v u H2 Q x y Fv Fu (rx.sm s2) ry ?_
      cases ef : f x y with
      | none => simp only [Option.bind_some, ef] at hp
      | some z =>
        simp only [Option.bind_some, ef] at hp
        exact fun w' H3 Fw s3 rw' => hp w' H3 Fw ((s1.trans s2).trans s3) rw'
def rUn (f : PV → Option PV) (a : RM) : RM := fun env => (a env).bind f
theorem im_rUn {r : V → Hp → VK → Prop} {f : PV → Option PV} {ta : TE} {a : RM} (hs : SimU K r f) (ha : ImR K ta a) : ImR K (tUn r ta) (rUn f a) := by
  intro σ H Q env F hr hp
  unfold rUn at hp
  refine ha σ H _ env F hr ?_
  cases ea : a env with
  | none => rw [ea] at hp; exact hp
  | some x =>
    rw [ea] at hp
    intro v H1 Fv s1 rx
    refine hs v H1 Q x Fv rx ?_
    cases ef : f x with
    | none => simp only [Option.bind_some, ef] at hp
    | some z =>
      simp only [Option.bind_some, ef] at hp
      exact fun w' H3 Fw s3 rw' _ _ => hp w' H3 Fw (s1.trans s3) rw'
/-- .. as a value: it must have no mutable part -/
def eR (m : RM) : EM := fun env => ofO (immO (m env)) env
theorem im_eR {t : TE} {m : RM} (h : ImR K t m) : ImE K mg W t (eR m) := by
  intro σ H Q env F hr hn hp
  unfold eR at hp
  refine h σ H Q env F hr ?_
  have z := immO_old (fin_new (K := K) hr hn Fm.refl hp)
  cases e : m env with
  | none => rw [e] at z; exact z
  | some pv => rw [e] at z; exact z
/-- a constant -/
def eC (x : PV) : EM := fun env => .ok x env
theorem im_eC {x : PV} {v : V} (h : constV x = some v := by rfl) : ImE K mg W (tC v) (eC x) := by
  intro σ H Q env F hr hn hp
  exact hp v H [] F hr (constV_ok h) hn Fm.refl
/-- a name: copied where it has no mutable part, else taken out -/
def eVar (i : Nat) : EM := fun env => match env[i]? with
  | some (some x) => if x.imm = true then .ok x env else .ok x (env.set i none)
  | _ => .bad
theorem im_eVar (i : Nat) : ImE K mg W (tVar i) (eVar i) := by
  intro σ H Q env F hr hn hp
  unfold eVar at hp
  split at hp
  · rename_i x e
    by_cases hx : x.imm = true
    · rw [if_pos hx] at hp
      obtain ⟨v, F1, e1, h1⟩ := hr.get e
      have e2 := RV.imm hx h1
      subst e2
      exact ⟨v, e1, hp v H [] F hr h1 hn Fm.refl⟩
    · rw [if_neg hx] at hp
      obtain ⟨v, F1, F2, e1, h1, h2, p⟩ := hr.take e
      exact ⟨v, e1, hp v H F1 F2 h2 h1 (nodup_of_perm p.symm hn) ⟨Kp.refl, fun b z => .inl (p.symm.subset z)⟩⟩
  · exact hp.elim

/-! ### tests -/
/-- a value that is a bool, as a test -/
def bE (m : EM) : BM := fun env => (m env).bind fun x e => match x with
  | .bl b => .ok b e
  | _ => .bad
theorem im_bE {t : TE} {m : EM} (h : ImE K mg W t m) : ImT K mg W (fun σ H Q => t σ H fun x H' => ∃ k, x = .bl k ∧ Q k H') (bE m) := by
  intro σ H Q env F hr hn hp
  refine h σ H _ env F hr hn (hp.bind.imp fun x e1 q1 v H1 Fv F1 hr1 hx hn1 hf1 => ?_)
  cases x with
  | bl b =>
    simp only [RV] at hx
    exact ⟨b, hx.1, q1 H1 F1 hr1 (nd_right hn1) (fm_left hf1)⟩
  | _ => exact q1.elim
def bAnd (a b : BM) : BM := fun env => (a env).bind fun x e => if x = true then b e else .ok false e
theorem im_bAnd {ta tb : TT} {a b : BM} (ha : ImT K mg W ta a) (hb : ImT K mg W tb b) : ImT K mg W (tAnd ta tb) (bAnd a b) := by
  intro σ H Q env F hr hn hp
  refine ha σ H _ env F hr hn (hp.bind.imp fun x e1 q1 H1 F1 hr1 hn1 hf1 => ?_)
  cases x with
  | true =>
    rw [if_pos rfl] at q1 ⊢
    exact hb σ H1 _ e1 F1 hr1 hn1 (q1.later hf1 fun y e2 q2 H2 F2 hr2 hn2 hf2 => q2 H2 F2 hr2 hn2 (hf1.trans hf2))
  | false =>
    rw [if_neg Bool.false_ne_true] at q1 ⊢
    exact q1 H1 F1 hr1 hn1 hf1
def bOr (a b : BM) : BM := fun env => (a env).bind fun x e => if x = true then .ok true e else b e
theorem im_bOr {ta tb : TT} {a b : BM} (ha : ImT K mg W ta a) (hb : ImT K mg W tb b) : ImT K mg W (tOr ta tb) (bOr a b) := by
  intro σ H Q env F hr hn hp
  refine ha σ H _ env F hr hn (hp.bind.imp fun x e1 q1 H1 F1 hr1 hn1 hf1 => ?_)
  cases x with
  | true =>
    rw [if_pos rfl] at q1 ⊢
    exact q1 H1 F1 hr1 hn1 hf1
  | false =>
    rw [if_neg Bool.false_ne_true] at q1 ⊢
    exact hb σ H1 _ e1 F1 hr1 hn1 (q1.later hf1 fun y e2 q2 H2 F2 hr2 hn2 hf2 => q2 H2 F2 hr2 hn2 (hf1.trans hf2))
def bNot (a : BM) : BM := fun env => (a env).bind fun x e => .ok (!x) e
theorem im_bNot {ta : TT} {a : BM} (ha : ImT K mg W ta a) : ImT K mg W (tNot ta) (bNot a) := by
  intro σ H Q env F hr hn hp
  exact ha σ H _ env F hr hn (hp.bind.imp fun x e1 q1 H1 F1 hr1 hn1 hf1 => q1 H1 F1 hr1 hn1 hf1)
/-- .. as values -/
def eAnd (a b : EM) : EM := fun env => (a env).bind fun x e => match x with
  | .bl true => b e
  | .bl false => .ok (.bl false) e
  | _ => .bad
theorem im_eAnd {ta tb : TE} {a b : EM} (ha : ImE K mg W ta a) (hb : ImE K mg W tb b) : ImE K mg W (tAndV ta tb) (eAnd a b) := by
  intro σ H Q env F hr hn hp
  refine ha σ H _ env F hr hn (hp.bind.imp fun x e1 q1 v H1 Fv F1 hr1 hx hn1 hf1 => ?_)
  cases x with
  | bl c =>
    simp only [RV] at hx
    refine ⟨c, hx.1, ?_⟩
    cases c with
    | true =>
      rw [if_pos rfl]
      exact hb σ H1 _ e1 F1 hr1 (nd_right hn1) (q1.later (fm_left hf1) fun y e2 q2 v2 H2 Fv2 F2 hr2 hv2 hn2 hf2 => q2 v2 H2 Fv2 F2 hr2 hv2 hn2 ((fm_left hf1).trans hf2))
    | false =>
      rw [if_neg Bool.false_ne_true]
      exact q1 (.bl false) H1 [] F1 hr1 (by simp [RV]) (nd_right hn1) (fm_left hf1)
  | _ => exact q1.elim
def eOr (a b : EM) : EM := fun env => (a env).bind fun x e => match x with
  | .bl true => .ok (.bl true) e
  | .bl false => b e
  | _ => .bad
theorem im_eOr {ta tb : TE} {a b : EM} (ha : ImE K mg W ta a) (hb : ImE K mg W tb b) : ImE K mg W (tOrV ta tb) (eOr a b) := by
  intro σ H Q env F hr hn hp
  refine ha σ H _ env F hr hn (hp.bind.imp fun x e1 q1 v H1 Fv F1 hr1 hx hn1 hf1 => ?_)
  cases x with
  | bl c =>
    simp only [RV] at hx
    refine ⟨c, hx.1, ?_⟩
    cases c with
    | false =>
      rw [if_neg Bool.false_ne_true]
      exact hb σ H1 _ e1 F1 hr1 (nd_right hn1) (q1.later (fm_left hf1) fun y e2 q2 v2 H2 Fv2 F2 hr2 hv2 hn2 hf2 => q2 v2 H2 Fv2 F2 hr2 hv2 hn2 ((fm_left hf1).trans hf2))
    | true =>
      rw [if_pos rfl]
      exact q1 (.bl true) H1 [] F1 hr1 (by simp [RV]) (nd_right hn1) (fm_left hf1)
  | _ => exact q1.elim
def eNot (a : EM) : EM := fun env => (a env).bind fun x e => match x with
  | .bl c => .ok (.bl (!c)) e
  | _ => .bad
theorem im_eNot {ta : TE} {a : EM} (ha : ImE K mg W ta a) : ImE K mg W (tNotV ta) (eNot a) := by
  intro σ H Q env F hr hn hp
  refine ha σ H _ env F hr hn (hp.bind.imp fun x e1 q1 v H1 Fv F1 hr1 hx hn1 hf1 => ?_)
  cases x with
  | bl c =>
    simp only [RV] at hx
    exact ⟨c, hx.1, q1 (.bl (!c)) H1 [] F1 hr1 (by simp [RV]) (nd_right hn1) (fm_left hf1)⟩
  | _ => exact q1.elim
def eIf (c : BM) (a b : EM) : EM := fun env => (c env).bind fun x e => if x = true then a e else b e
theorem im_eIf {tc : TT} {ta tb : TE} {c : BM} {a b : EM} (hc : ImT K mg W tc c) (ha : ImE K mg W ta a) (hb : ImE K mg W tb b) : ImE K mg W (tIf tc ta tb) (eIf c a b) := by
  intro σ H Q env F hr hn hp
  refine hc σ H _ env F hr hn (hp.bind.imp fun x e1 q1 H1 F1 hr1 hn1 hf1 => ?_)
  cases x with
  | true =>
    rw [if_pos rfl] at q1 ⊢
    exact ha σ H1 _ e1 F1 hr1 hn1 (q1.later hf1 fun y e2 q2 v2 H2 Fv2 F2 hr2 hv2 hn2 hf2 => q2 v2 H2 Fv2 F2 hr2 hv2 hn2 (hf1.trans hf2))
  | false =>
    rw [if_neg Bool.false_ne_true] at q1 ⊢
    exact hb σ H1 _ e1 F1 hr1 hn1 (q1.later hf1 fun y e2 q2 v2 H2 Fv2 F2 hr2 hv2 hn2 hf2 => q2 v2 H2 Fv2 F2 hr2 hv2 hn2 (hf1.trans hf2))

/-! ### displays -/
def eTup (a : AM) : EM := fun env => (a env).bind fun as e => match ownL as with
  | some xs => if xs.length ≤ sizeLine then .ok (.tup xs) e else .bad
  | none => .bad
theorem im_eTup {ta : TA} {a : AM} (ha : ImA K mg W ta a) : ImE K mg W (tTup ta) (eTup a) := by
  intro σ H Q env F hr hn hp
  refine ha σ H _ env F hr hn (hp.bind.imp fun as e1 q1 vs H1 Fv F1 hr1 hx hn1 hf1 => ?_)
  cases ex : ownL as with
  | none => rw [ex] at q1; exact q1.elim
  | some xs =>
    rw [ex] at q1
    have hl := ownL_ok hx ex
    by_cases hz : xs.length ≤ sizeLine
    · simp only [if_pos hz] at q1
      refine ⟨by rw [hl.length]; exact hz, fun p np => ?_⟩
      have s := sm_upd (o := .tup vs) np
      refine q1 (.ref p) _ Fv F1 (hr1.sm s) ?_ hn1 (hf1.trans (Fm.of_sm s fun b z => .inl z))
      simp only [RV]
      exact ⟨p, vs, rfl, .inl (.inl upd_same), hl.sm s⟩
    · simp only [if_neg hz] at q1
      exact q1.elim
def eLst (a : AM) : EM := fun env => (a env).bind fun as e => match ownL as with
  | some xs => if xs.length ≤ sizeLine then .ok (.lst xs) e else .bad
  | none => .bad
theorem im_eLst {ta : TA} {a : AM} (ha : ImA K mg W ta a) : ImE K mg W (tLst ta) (eLst a) := by
  intro σ H Q env F hr hn hp
  refine ha σ H _ env F hr hn (hp.bind.imp fun as e1 q1 vs H1 Fv F1 hr1 hx hn1 hf1 => ?_)
  cases ex : ownL as with
  | none => rw [ex] at q1; exact q1.elim
  | some xs =>
    rw [ex] at q1
    have hl := ownL_ok hx ex
    by_cases hz : xs.length ≤ sizeLine
    · simp only [if_pos hz] at q1
      refine ⟨by rw [hl.length]; exact hz, fun p np => ?_⟩
      have s := sm_upd (o := .lst vs) np
      have hp' : p ∉ Fv ++ F1 := fun z => by
        rcases List.mem_append.mp z with z | z
        · obtain ⟨o, e, _⟩ := hx.mt p z; rw [np] at e; cases e
        · obtain ⟨o, e, _⟩ := hr1.mt p z; rw [np] at e; cases e
      refine q1 (.ref p) _ (p :: Fv) F1 (hr1.sm s) ?_ ?_ (hf1.trans (Fm.of_sm s fun b z => ?_))
      · simp only [RV]
        exact ⟨p, vs, Fv, rfl, upd_same, hl.sm s, rfl⟩
      · rw [List.cons_append]; exact List.nodup_cons.mpr ⟨hp', hn1⟩
      · rw [List.cons_append] at z
        rcases List.mem_cons.mp z with z | z
        · exact .inr (by rw [z]; exact np)
        · exact .inl z
    · simp only [if_neg hz] at q1
      exact q1.elim
end
end PVL

/-! P3: statements, targets, loops, comprehensions. -/
namespace PVL
open PySem PySem.Spec L2

inductive SO where
  | next (env : PEnv)
  | ret (x : PV) (env : PEnv)
  | brk (env : PEnv)
  | cont (env : PEnv)
  | exc (x : PX) (env : PEnv)
  | bad
abbrev SM := PEnv → SO
structure Ag (S : List Nat) (σ σ' : L2.St) : Prop where
  len : σ'.length = σ.length
  at_ : ∀ j, j ∉ S → σ'[j]? = σ[j]?
theorem Ag.refl {S : List Nat} {σ : L2.St} : Ag S σ σ := ⟨rfl, fun _ _ => rfl⟩
theorem Ag.trans {S : List Nat} {a b c : L2.St} (x : Ag S a b) (y : Ag S b c) : Ag S a c := ⟨y.len.trans x.len, fun j h => (y.at_ j h).trans (x.at_ j h)⟩
theorem Ag.mono {S T : List Nat} {a b : L2.St} (x : Ag S a b) (h : ∀ j ∈ S, j ∈ T) : Ag T a b := ⟨x.len, fun j n => x.at_ j fun z => n (h j z)⟩
theorem Ag.set {S : List Nat} {σ : L2.St} {i : Nat} {y : Option V} (h : i ∈ S) : Ag S σ (σ.set i y) := ⟨by simp, fun j n => by
  rw [List.getElem?_set_ne]
  intro e; subst e; exact n h⟩

def EO.toS {α : Type} (x : EO α) (f : α → PEnv → SO) : SO := match x with
  | .ok a e => f a e
  | .exc x e => .exc x e
  | .bad => .bad
@[simp] theorem EO.toS_ok {α : Type} (a : α) (e : PEnv) (f : α → PEnv → SO) : (EO.ok a e).toS f = f a e := rfl
@[simp] theorem EO.toS_exc {α : Type} (x : PX) (e : PEnv) (f : α → PEnv → SO) : (EO.exc x e : EO α).toS f = .exc x e := rfl
@[simp] theorem EO.toS_bad {α : Type} (f : α → PEnv → SO) : (EO.bad : EO α).toS f = .bad := rfl

section
variable (K : PySem.W.Frag) (mg : Str → Option Value) (W : WX) (S : List Nat)
def PostS (D : Ends) (σ : L2.St) (H : Hp) (F : List Addr) : SO → Prop
  | .next e => ∀ σ' H' F', RE K H' e σ' F' → F'.Nodup → Fm F H F' H' → Ag S σ σ' → D.nx σ' H'
  | .ret x e => ∀ v σ' H' Fv F', RE K H' e σ' F' → RV K H' x v Fv → (Fv ++ F').Nodup → Fm F H (Fv ++ F') H' → Ag S σ σ' → D.rt v H'
  | .brk e => ∀ σ' H' F', RE K H' e σ' F' → F'.Nodup → Fm F H F' H' → Ag S σ σ' → D.bk σ' H'
  | .cont e => ∀ σ' H' F', RE K H' e σ' F' → F'.Nodup → Fm F H F' H' → Ag S σ σ' → D.ct σ' H'
  | .exc x e => ∀ cls d σ' H' F', RE K H' e σ' F' → F'.Nodup → Fm F H F' H' → Ag S σ σ' → RX K mg x cls d H' → W cls d σ' H'
  | .bad => False
def ImS (t : TS) (m : SM) : Prop := ∀ D σ H env F, RE K H env σ F → F.Nodup → PostS K mg W S D σ H F (m env) → t D σ H
end

section
variable {K : PySem.W.Frag} {mg : Str → Option Value} {W : WX} {S S1 S2 T : List Nat}
theorem PostS.later {D : Ends} {σ σ1 : L2.St} {H H1 : Hp} {F F1 : List Addr} (f : Fm F H F1 H1) (a : Ag S σ σ1) {o : SO} (h : PostS K mg W S D σ H F o) : PostS K mg W S D σ1 H1 F1 o := by
  cases o with
  | next e => exact fun σ' H' F' x1 x2 x3 x4 => h σ' H' F' x1 x2 (f.trans x3) (a.trans x4)
  | ret x e => exact fun v σ' H' Fv F' x1 x2 x3 x4 x5 => h v σ' H' Fv F' x1 x2 x3 (f.trans x4) (a.trans x5)
  | brk e => exact fun σ' H' F' x1 x2 x3 x4 => h σ' H' F' x1 x2 (f.trans x3) (a.trans x4)
  | cont e => exact fun σ' H' F' x1 x2 x3 x4 => h σ' H' F' x1 x2 (f.trans x3) (a.trans x4)
  | exc x e => exact fun cls d σ' H' F' x1 x2 x3 x4 x5 => h cls d σ' H' F' x1 x2 (f.trans x3) (a.trans x4) x5
  | bad => exact h
theorem PostS.mono {D : Ends} {σ : L2.St} {H : Hp} {F : List Addr} (hs : ∀ j ∈ S, j ∈ T) {o : SO} (h : PostS K mg W T D σ H F o) : PostS K mg W S D σ H F o := by
  cases o with
  | next e => exact fun σ' H' F' x1 x2 x3 x4 => h σ' H' F' x1 x2 x3 (x4.mono hs)
  | ret x e => exact fun v σ' H' Fv F' x1 x2 x3 x4 x5 => h v σ' H' Fv F' x1 x2 x3 x4 (x5.mono hs)
  | brk e => exact fun σ' H' F' x1 x2 x3 x4 => h σ' H' F' x1 x2 x3 (x4.mono hs)
  | cont e => exact fun σ' H' F' x1 x2 x3 x4 => h σ' H' F' x1 x2 x3 (x4.mono hs)
  | exc x e => exact fun cls d σ' H' F' x1 x2 x3 x4 x5 => h cls d σ' H' F' x1 x2 x3 (x4.mono hs) x5
  | bad => exact h
theorem ImS.mono {t : TS} {m : SM} (h : ImS K mg W S t m) (hs : ∀ j ∈ S, j ∈ T) : ImS K mg W T t m := fun D σ H env F hr hn hp => h D σ H env F hr hn (hp.mono hs)
/-- an expression within a statement -/
theorem PostS.ofE {α : Type} {D : Ends} {σ : L2.St} {H : Hp} {F : List Addr} {o : EO α} {f : α → PEnv → SO} (h : PostS K mg W S D σ H F (o.toS f)) : PostE K mg W σ H F (fun a e => PostS K mg W S D σ H F (f a e)) o := by
  cases o with
  | ok a e => exact h
  | exc x e => exact fun cls d H' F' x1 x2 x3 x4 => h cls d σ H' F' x1 x2 x3 Ag.refl x4
  | bad => exact h

theorem PostS.ofE2 {α : Type} {D : Ends} {σ σ1 : L2.St} {H H1 : Hp} {F F1 : List Addr} {o : EO α} {f : α → PEnv → SO} (h : PostS K mg W S D σ H F (o.toS f)) (hf : Fm F H F1 H1) (ag : Ag S σ σ1) : PostE K mg W σ1 H1 F1 (fun a e => PostS K mg W S D σ H F (f a e)) o := by
  cases o with
  | ok a e => exact h
  | exc x e => exact fun cls d H' F' x1 x2 x3 x4 => h cls d σ1 H' F' x1 x2 (hf.trans x3) ag x4
  | bad => exact h

/-! ### blocks -/
def sNil : SM := fun env => .next env
theorem im_sNil : ImS K mg W S tNext sNil := fun D σ H env F hr hn hp => hp σ H F hr hn Fm.refl Ag.refl
def sSeq (a b : SM) : SM := fun env => match a env with
  | .next e => b e
  | o => o
theorem im_sSeq {t u : TS} {a b : SM} (ha : ImS K mg W S1 t a) (hb : ImS K mg W S2 u b) : ImS K mg W (S1 ++ S2) (tSeq t u) (sSeq a b) := by
  have ha := ha.mono (T := S1 ++ S2) fun j z => List.mem_append_left _ z
  have hb := hb.mono (T := S1 ++ S2) fun j z => List.mem_append_right _ z
  intro D σ H env F hr hn hp
  refine ha { D with nx := u D } σ H env F hr hn ?_
  unfold sSeq at hp
  cases e : a env with
  | next e1 =>
    rw [e] at hp
    exact fun σ' H' F' x1 x2 x3 x4 => hb D σ' H' e1 F' x1 x2 (hp.later x3 x4)
  | ret x e1 => rw [e] at hp; exact hp
  | brk e1 => rw [e] at hp; exact hp
  | cont e1 => rw [e] at hp; exact hp
  | exc x e1 => rw [e] at hp; exact hp
  | bad => rw [e] at hp; exact hp
def sBrk : SM := fun env => .brk env
theorem im_sBrk : ImS K mg W S tBreak sBrk := fun D σ H env F hr hn hp => hp σ H F hr hn Fm.refl Ag.refl
def sCont : SM := fun env => .cont env
theorem im_sCont : ImS K mg W S tCont sCont := fun D σ H env F hr hn hp => hp σ H F hr hn Fm.refl Ag.refl
def sBad : SM := fun _ => .bad
theorem im_sBad : ImS K mg W S tNever sBad := fun D σ H env F hr hn hp => hp
def sExpr (m : EM) : SM := fun env => (m env).toS fun _ e => .next e
theorem im_sExpr {t : TE} {m : EM} (h : ImE K mg W t m) : ImS K mg W S (tDrop t) (sExpr m) := by
  intro D σ H env F hr hn hp
  exact h σ H _ env F hr hn (hp.ofE.imp fun x e1 q1 v H1 Fv F1 hr1 hx hn1 hf1 => q1 σ H1 F1 hr1 (nd_right hn1) (fm_left hf1) Ag.refl)
def sRet (m : EM) : SM := fun env => (m env).toS fun x e => .ret x e
theorem im_sRet {t : TE} {m : EM} (h : ImE K mg W t m) : ImS K mg W S (tRet t) (sRet m) := by
  intro D σ H env F hr hn hp
  exact h σ H _ env F hr hn (hp.ofE.imp fun x e1 q1 v H1 Fv F1 hr1 hx hn1 hf1 => q1 v σ H1 Fv F1 hr1 hx hn1 hf1 Ag.refl)
def sRetN : SM := fun env => .ret .non env
theorem im_sRetN : ImS K mg W S tRetN sRetN := by
  intro D σ H env F hr hn hp
  exact hp .non σ H [] F hr (by simp [RV]) hn Fm.refl Ag.refl
def sIf (c : BM) (a b : SM) : SM := fun env => (c env).toS fun x e => if x = true then a e else b e
theorem im_sIf {tc : TT} {t u : TS} {c : BM} {a b : SM} (hc : ImT K mg W tc c) (ha : ImS K mg W S1 t a) (hb : ImS K mg W S2 u b) : ImS K mg W (S1 ++ S2) (tIfS tc t u) (sIf c a b) := by
  have ha := ha.mono (T := S1 ++ S2) fun j z => List.mem_append_left _ z
  have hb := hb.mono (T := S1 ++ S2) fun j z => List.mem_append_right _ z
  intro D σ H env F hr hn hp
  refine hc σ H _ env F hr hn (hp.ofE.imp fun x e1 q1 H1 F1 hr1 hn1 hf1 => ?_)
  cases x with
  | true =>
    rw [if_pos rfl] at q1 ⊢
    exact ha D σ H1 e1 F1 hr1 hn1 (q1.later hf1 Ag.refl)
  | false =>
    rw [if_neg Bool.false_ne_true] at q1 ⊢
    exact hb D σ H1 e1 F1 hr1 hn1 (q1.later hf1 Ag.refl)

/-! ### targets -/
abbrev TM := PV → PEnv → Option PEnv
def ImTg (K : PySem.W.Frag) (S : List Nat) (g : TG) (m : TM) : Prop := ∀ x v σ H env F Fx Q, RE K H env σ F → RV K H x v Fx → (Fx ++ F).Nodup →
  (match m x env with | some e => ∀ σ' F', RE K H e σ' F' → F'.Nodup → (∀ b ∈ F', b ∈ Fx ++ F) → Ag S σ σ' → Q σ' H | none => False) → g v σ H Q
def ImTgs (K : PySem.W.Frag) (S : List Nat) (g : TGs) (m : List PV → PEnv → Option PEnv) : Prop := ∀ xs vs σ H env F Fx Q, RE K H env σ F → RVL K H xs vs Fx → (Fx ++ F).Nodup →
  (match m xs env with | some e => ∀ σ' F', RE K H e σ' F' → F'.Nodup → (∀ b ∈ F', b ∈ Fx ++ F) → Ag S σ σ' → Q σ' H | none => False) → g vs σ H Q
def tgN (i : Nat) : TM := fun x env => if i < env.length then some (env.set i (some x)) else none
theorem im_tgN (i : Nat) : ImTg K [i] (gName i) (tgN i) := by
  intro x v σ H env F Fx Q hr hx hn hp
  unfold tgN at hp
  by_cases hl : i < env.length
  · simp only [hl, if_true] at hp
    obtain ⟨F', a, F1, b, c⟩ := hr.store hl hx
    refine hp _ F' a (nodup_of_perm c ?_) (fun z hz => ?_) (Ag.set (by simp))
    · exact hn.sublist (List.Sublist.append (List.Sublist.refl Fx) b)
    · rcases List.mem_append.mp (c.subset hz) with y | y
      · exact List.mem_append_left _ y
      · exact List.mem_append_right _ (b.subset y)
  · simp only [hl, if_false] at hp
def tgsNil : List PV → PEnv → Option PEnv := fun xs env => match xs with
  | [] => some env
  | _ => none
theorem im_tgsNil : ImTgs K S gNil tgsNil := by
  intro xs vs σ H env F Fx Q hr hx hn hp
  unfold tgsNil at hp
  cases xs with
  | nil =>
    simp only [RVL] at hx
    exact ⟨hx.1, hp σ F hr (nd_right hn) (fun b z => List.mem_append_right _ z) Ag.refl⟩
  | cons a b => exact hp.elim
def tgsCons (t : TM) (u : List PV → PEnv → Option PEnv) : List PV → PEnv → Option PEnv := fun xs env => match xs with
  | x :: r => (t x env).bind fun e => u r e
  | [] => none
theorem im_tgsCons {g : TG} {gs : TGs} {t : TM} {u : List PV → PEnv → Option PEnv} (ht : ImTg K S1 g t) (hu : ImTgs K S2 gs u) : ImTgs K (S1 ++ S2) (gCons g gs) (tgsCons t u) := by
  intro xs vs σ H env F Fx Q hr hx hn hp
  unfold tgsCons at hp
  cases xs with
  | nil => exact hp.elim
  | cons x r =>
    simp only [RVL] at hx
    obtain ⟨v, vr, F1, F2, e1, h1, h2, eF⟩ := hx
    subst e1; subst eF
    have n1 : (F1 ++ F).Nodup := by
      rw [List.append_assoc, List.nodup_append] at hn
      have n2 := (List.nodup_append.mp hn.2.1)
      rw [List.nodup_append]
      exact ⟨hn.1, n2.2.1, fun a ha b hb => hn.2.2 a ha b (List.mem_append_right _ hb)⟩
    refine ⟨v, vr, rfl, ht x v σ H env F F1 _ hr h1 n1 ?_⟩
    cases e : t x env with
    | none => simp only [e, Option.bind_none] at hp
    | some env1 =>
      simp only [e, Option.bind_some] at hp
      intro σ1 G1 r1 ng sub ag
      have nG : (F2 ++ G1).Nodup := by
        rw [List.append_assoc, List.nodup_append] at hn
        have n2 := (List.nodup_append.mp hn.2.1)
        rw [List.nodup_append]
        refine ⟨n2.1, ng, fun a ha b hb => ?_⟩
        rcases List.mem_append.mp (sub b hb) with z | z
        · exact fun q => hn.2.2 b z a (List.mem_append_left _ ha) q.symm
        · exact n2.2.2 a ha b z
      refine hu r vr σ1 H env1 G1 F2 Q r1 h2 nG ?_
      cases e2 : u r env1 with
      | none => simp only [e2] at hp
      | some env2 =>
        simp only [e2] at hp
        intro σ2 G2 r2 ng2 sub2 ag2
        refine hp σ2 G2 r2 ng2 (fun b hb => ?_) ((ag.mono fun j z => List.mem_append_left _ z).trans (ag2.mono fun j z => List.mem_append_right _ z))
        rcases List.mem_append.mp (sub2 b hb) with z | z
        · exact List.mem_append_left _ (List.mem_append_right _ z)
        · rcases List.mem_append.mp (sub b z) with y | y
          · exact List.mem_append_left _ (List.mem_append_left _ y)
          · exact List.mem_append_right _ y
def tgT (n : Nat) (u : List PV → PEnv → Option PEnv) : TM := fun x env => match x with
  | .tup xs => if xs.length = n then u xs env else none
  | _ => none
theorem im_tgT {n : Nat} {gs : TGs} {u : List PV → PEnv → Option PEnv} (hu : ImTgs K S gs u) : ImTg K S (gTup K n gs) (tgT n u) := by
  intro x v σ H env F Fx Q hr hx hn hp
  unfold tgT at hp
  cases x with
  | tup xs =>
    simp only [RV] at hx
    obtain ⟨a, vs, e, q, hl⟩ := hx
    by_cases hz : xs.length = n
    · simp only [hz, if_true] at hp
      exact ⟨a, vs, e, q, by rw [hl.length, hz], hu xs vs σ H env F Fx Q hr hl hn hp⟩
    · simp only [hz, if_false] at hp
  | _ => exact hp.elim
def sAsg (m : EM) (t : TM) : SM := fun env => (m env).toS fun x e => match t x e with
  | some e2 => .next e2
  | none => .bad
theorem im_sAsg {te : TE} {m : EM} {g : TG} {t : TM} (he : ImE K mg W te m) (ht : ImTg K S g t) : ImS K mg W S (tAsg te g) (sAsg m t) := by
  intro D σ H env F hr hn hp
  refine he σ H _ env F hr hn (hp.ofE.imp fun x e1 q1 v H1 Fv F1 hr1 hx hn1 hf1 => ?_)
  refine ht x v σ H1 e1 F1 Fv D.nx hr1 hx hn1 ?_
  cases e : t x e1 with
  | none => simp only [e] at q1; exact q1.elim
  | some e2 =>
    simp only [e] at q1
    intro σ' F' r' n' sub ag
    exact q1 σ' H1 F' r' n' (hf1.sub sub) ag
/-- a, b = x, y -/
def sPar (i j : Nat) (a : AM) : SM := fun env => (a env).toS fun as e => match ownL as with
  | some [x, y] => if i < e.length ∧ j < e.length then .next ((e.set i (some x)).set j (some y)) else .bad
  | _ => .bad
theorem im_sPar {i j : Nat} {ta : TA} {a : AM} (hij : i ≠ j) (ha : ImA K mg W ta a) : ImS K mg W [i, j] (tPar i j ta) (sPar i j a) := by
  intro D σ H env F hr hn hp
  refine ha σ H _ env F hr hn (hp.ofE.imp fun as e1 q1 vs H1 Fv F1 hr1 hx hn1 hf1 => ?_)
  cases ex : ownL as with
  | none => rw [ex] at q1; exact q1.elim
  | some xs =>
    rw [ex] at q1
    match xs, ex, q1 with
    | [], _, q1 => exact q1.elim
    | [_], _, q1 => exact q1.elim
    | _ :: _ :: _ :: _, _, q1 => exact q1.elim
    | [x, y], ex, q1 =>
      have hl := ownL_ok hx ex
      simp only [RVL] at hl
      obtain ⟨v, _, G1, _, rfl, h1, ⟨w, _, G2, _, rfl, h2, ⟨rfl, rfl⟩, rfl⟩, rfl⟩ := hl
      by_cases hz : i < e1.length ∧ j < e1.length
      · simp only [hz, and_self, if_true] at q1
        refine ⟨v, w, rfl, ?_⟩
        obtain ⟨Fa, ra, A1, sA, pA⟩ := hr1.store hz.1 h1
        obtain ⟨Fb, rb, B1, sB, pB⟩ := ra.store (i := j) (x := y) (v := w) (by simpa using hz.2) h2
        have nn : (G1 ++ (G2 ++ F1)).Nodup := by simpa [List.append_assoc] using hn1
        have n3 : (G2 ++ (G1 ++ A1)).Nodup := by
          refine nodup_of_perm (l := G2 ++ (G1 ++ A1)) (m := G1 ++ (G2 ++ A1)) ?_ (nn.sublist ?_)
          · rw [← List.append_assoc, ← List.append_assoc]; exact List.Perm.append_right _ List.perm_append_comm
          · exact List.Sublist.append (List.Sublist.refl _) (List.Sublist.append (List.Sublist.refl _) sA)
        have n4 : (G2 ++ Fa).Nodup := nodup_of_perm (List.Perm.append_left _ pA) n3
        have nB : Fb.Nodup := nodup_of_perm pB (n4.sublist (List.Sublist.append (List.Sublist.refl _) sB))
        refine q1 _ H1 Fb rb nB (hf1.sub fun b hb => ?_) ((Ag.set (by simp)).trans (Ag.set (by simp)))
        rcases List.mem_append.mp (pB.subset hb) with z | z
        · exact List.mem_append_left _ (List.mem_append_right _ (List.mem_append_left _ z))
        · rcases List.mem_append.mp (pA.subset (sB.subset z)) with y' | y'
          · exact List.mem_append_left _ (List.mem_append_left _ y')
          · exact List.mem_append_right _ (sA.subset y')
      · simp only [hz, if_false] at q1
        exact q1.elim

/-! ### what a loop walks -/
/-- the items that an iterator will give while what stands at Fi stands -/
def WalkP (K : PySem.W.Frag) (J : It) (items : List PV) (Fi : List Addr) (H : Hp) : Prop :=
  ∃ (G : Hp → Prop) (Y : Nat → Hp → V → Hp → Prop), Walk J items.length G Y ∧ G H ∧ (∀ H1 H2, G H1 → (∀ b o, H1 b = some o → (b ∈ Fi ∨ mutO o = false) → H2 b = some o) → G H2) ∧ Mt H Fi ∧
    ∀ i H1 x H2, G H1 → Y i H1 x H2 → Sm H1 H2 ∧ ∀ p, items[i]? = some p → RV K H2 p x []
def ImI (K : PySem.W.Frag) (mg : Str → Option Value) (W : WX) (wi : TI) (m : PEnv → EO (List PV)) : Prop := ∀ σ H R env F, RE K H env σ F → F.Nodup →
  PostE K mg W σ H F (fun items env' => ∀ J H' Fi F', RE K H' env' σ F' → (Fi ++ F').Nodup → Fm F H (Fi ++ F') H' → WalkP K J items Fi H' → R J H') (m env) → wi σ H R
/-- a loop's turns -/
def forL (t : TM) (body : SM) : List PV → SM
  | [], env => .next env
  | x :: r, env => match t x env with
    | none => .bad
    | some e => match body e with
      | .next e => forL t body r e
      | .cont e => forL t body r e
      | .brk e => .next e
      | o => o
/-- what is done to the environment at a loop's every end -/
def SO.mapE (f : PEnv → PEnv) : SO → SO
  | .next e => .next (f e)
  | .ret x e => .ret x (f e)
  | .brk e => .brk (f e)
  | .cont e => .cont (f e)
  | .exc x e => .exc x (f e)
  | .bad => .bad
theorem drop_cons {α : Type} {l : List α} {i : Nat} (h : i < l.length) : l.drop i = l[i] :: l.drop (i + 1) := List.drop_eq_getElem_cons h
/-- the environment is put right again, with what was held back -/
def Fix (K : PySem.W.Frag) (S : List Nat) (σ0 : L2.St) (Fi : List Addr) (G : Hp → Prop) (fix : PEnv → PEnv) : Prop :=
  ∀ e σ H F, RE K H e σ F → (Fi ++ F).Nodup → G H → Ag S σ0 σ → ∃ F', RE K H (fix e) σ F' ∧ F'.Nodup ∧ ∀ b ∈ F', b ∈ Fi ++ F
theorem im_forG {g : TG} {tb : TS} {t : TM} {body : SM} {fix : PEnv → PEnv} (ht : ImTg K S1 g t) (hb : ImS K mg W S2 tb body)
    {D : Ends} {σ0 : L2.St} {H0 : Hp} {F0 : List Addr} {J : It} {items : List PV} {e1 : PEnv} {H1 : Hp} {F1 Fi : List Addr} {G : Hp → Prop} {Y : Nat → Hp → V → Hp → Prop}
    (w : Walk J items.length G Y) (hr1 : RE K H1 e1 σ0 F1) (hn1 : (Fi ++ F1).Nodup) (hf1 : Fm F0 H0 (Fi ++ F1) H1) (g1 : G H1) (gk : ∀ H1 H2, G H1 → (∀ b o, H1 b = some o → (b ∈ Fi ∨ mutO o = false) → H2 b = some o) → G H2) (mi : Mt H1 Fi)
    (yy : ∀ i H1 x H2, G H1 → Y i H1 x H2 → Sm H1 H2 ∧ ∀ p, items[i]? = some p → RV K H2 p x [])
    (hfix : Fix K (S1 ++ S2) σ0 Fi G fix) (q1 : PostS K mg W (S1 ++ S2) D σ0 H0 F0 ((forL t body items e1).mapE fix)) :
    ∃ W : Nat → Nat → L2.St → Hp → Prop, (∃ m, W 0 m σ0 H1) ∧ ∀ i m σ H, W i m σ H →
      (J.stop i H ∧ D.nx σ H) ∨ (J.go i H ∧ ∃ N : L2.St → Hp → Prop, (∀ σ' H', N σ' H' → ∃ m', m' < m ∧ W (i + 1) m' σ' H') ∧ ∀ x H', J.yld i H x H' → g x σ H' fun σ2 H2 => tb { D with nx := N, ct := N, bk := D.nx } σ2 H2) := by
  have hb := hb.mono (T := S1 ++ S2) fun j z => List.mem_append_right _ z
  refine for_it w (fun i σ H => ∃ env F, RE K H env σ F ∧ (Fi ++ F).Nodup ∧ Fm F0 H0 (Fi ++ F) H ∧ G H ∧ Mt H Fi ∧ Ag (S1 ++ S2) σ0 σ ∧ PostS K mg W (S1 ++ S2) D σ0 H0 F0 ((forL t body (items.drop i) env).mapE fix))
    ⟨e1, F1, hr1, hn1, hf1, g1, mi, Ag.refl, by simpa using q1⟩ (fun i σ H _ ⟨_, _, _, _, _, z, _⟩ => z) ?_ ?_
  · rintro i x σ H H' hlt ⟨env, F, hr, hn, hf, gH, mt, ag, post⟩ y
    obtain ⟨s1, rx⟩ := yy i H x H' gH y
    have hx : items[i]? = some items[i] := by simp [hlt]
    have rx := rx _ hx
    have hr' := hr.sm s1
    have f' : Fm F0 H0 (Fi ++ F) H' := hf.trans (Fm.of_sm s1 fun b z => .inl z)
    rw [drop_cons hlt] at post
    simp only [forL] at post
    refine ht items[i] x σ H' env F [] _ hr' rx (by simpa using nd_right hn) ?_
    cases e : t items[i] env with
    | none => simp only [e, SO.mapE] at post; exact post.elim
    | some e2 =>
      simp only [e] at post
      intro σ2 F2 r2 n2 sub ag2
      have sub : ∀ b ∈ F2, b ∈ F := fun b z => by simpa using sub b z
      have ag3 : Ag (S1 ++ S2) σ0 σ2 := ag.trans (ag2.mono fun j z => List.mem_append_left _ z)
      have nF2 : (Fi ++ F2).Nodup := by
        rw [List.nodup_append] at hn ⊢
        exact ⟨hn.1, n2, fun a ha b hb => hn.2.2 a ha b (sub b hb)⟩
      have gH' : G H' := gk H H' gH fun b o e _ => s1 b o e
      have mt' : Mt H' Fi := fun b z => by obtain ⟨o, e, m⟩ := mt b z; exact ⟨o, s1 b o e, m⟩
      have f2 : Fm F0 H0 (Fi ++ F2) H' := f'.sub fun b z => by
        rcases List.mem_append.mp z with z | z
        · exact List.mem_append_left _ z
        · exact List.mem_append_right _ (sub b z)
      -- behind the body
      have fr3 : ∀ {H3 : Hp} {F3 : List Addr}, Fm F2 H' F3 H3 → Fm F0 H0 (Fi ++ F3) H3 := fun f3 => fm_both f2 f3 mt'
      have fx : ∀ {e3 : PEnv} {σ3 : L2.St} {H3 : Hp} {F3 : List Addr}, RE K H3 e3 σ3 F3 → F3.Nodup → Fm F2 H' F3 H3 → Ag (S1 ++ S2) σ2 σ3 → ∃ F', RE K H3 (fix e3) σ3 F' ∧ F'.Nodup ∧ Fm F0 H0 F' H3 := by
        intro e3 σ3 H3 F3 r3 n3 f3 a3
        have k3 := keep_ap nF2 r2.mt f3
        obtain ⟨F', x1, x2, x3⟩ := hfix e3 σ3 H3 F3 r3 (nd_later nF2 mt' f3 n3) (gk H' H3 gH' k3) (ag3.trans a3)
        exact ⟨F', x1, x2, (fr3 f3).sub x3⟩
      have on : ∀ {e3 : PEnv} {σ3 : L2.St} {H3 : Hp} {F3 : List Addr}, RE K H3 e3 σ3 F3 → F3.Nodup → Fm F2 H' F3 H3 → Ag (S1 ++ S2) σ2 σ3 → PostS K mg W (S1 ++ S2) D σ0 H0 F0 ((forL t body (items.drop (i + 1)) e3).mapE fix) →
          ∃ env F, RE K H3 env σ3 F ∧ (Fi ++ F).Nodup ∧ Fm F0 H0 (Fi ++ F) H3 ∧ G H3 ∧ Mt H3 Fi ∧ Ag (S1 ++ S2) σ0 σ3 ∧ PostS K mg W (S1 ++ S2) D σ0 H0 F0 ((forL t body (items.drop (i + 1)) env).mapE fix) := by
        intro e3 σ3 H3 F3 r3 n3 f3 a3 p3
        have k3 := keep_ap nF2 r2.mt f3
        refine ⟨e3, F3, r3, nd_later nF2 mt' f3 n3, fr3 f3, gk H' H3 gH' k3, fun b z => ?_, ag3.trans a3, p3⟩
        obtain ⟨o, e, m⟩ := mt' b z; exact ⟨o, k3 b o e (.inl z), m⟩
      refine hb _ σ2 H' e2 F2 r2 n2 ?_
      cases eb : body e2 with
      | next e3 =>
        simp only [eb] at post
        exact fun σ3 H3 F3 x1 x2 x3 x4 => on x1 x2 x3 x4 post
      | cont e3 =>
        simp only [eb] at post
        exact fun σ3 H3 F3 x1 x2 x3 x4 => on x1 x2 x3 x4 post
      | brk e3 =>
        simp only [eb, SO.mapE] at post
        intro σ3 H3 F3 x1 x2 x3 x4
        obtain ⟨F', y1, y2, y3⟩ := fx x1 x2 x3 x4
        exact post σ3 H3 F' y1 y2 y3 (ag3.trans x4)
      | ret v e3 =>
        simp only [eb, SO.mapE] at post
        intro v σ3 H3 Fv F3 x1 x2 x3 x4 x5
        have k3 := keep_ap nF2 r2.mt x4
        have n5 := nd_later nF2 mt' x4 x3
        have n6 : (Fi ++ F3).Nodup := n5.sublist (List.Sublist.append (List.Sublist.refl _) (List.sublist_append_right _ _))
        obtain ⟨F', y1, y2, y3⟩ := hfix e3 σ3 H3 F3 x1 n6 (gk H' H3 gH' k3) (ag3.trans x5)
        refine post v σ3 H3 Fv F' y1 x2 ?_ ((fr3 x4).sub fun b z => ?_) (ag3.trans x5)
        · rw [List.nodup_append]
          refine ⟨(List.nodup_append.mp x3).1, y2, fun a ha b hb e => ?_⟩
          subst e
          rcases List.mem_append.mp (y3 a hb) with z | z
          · exact (List.nodup_append.mp n5).2.2 a z a (List.mem_append_left _ ha) rfl
          · exact nd_dis x3 a ha z
        · rcases List.mem_append.mp z with z | z
          · exact List.mem_append_right _ (List.mem_append_left _ z)
          · rcases List.mem_append.mp (y3 b z) with q | q
            · exact List.mem_append_left _ q
            · exact List.mem_append_right _ (List.mem_append_right _ q)
      | exc v e3 =>
        simp only [eb, SO.mapE] at post
        intro cls d σ3 H3 F3 x1 x2 x3 x4 x5
        obtain ⟨F', y1, y2, y3⟩ := fx x1 x2 x3 x4
        exact post cls d σ3 H3 F' y1 y2 y3 (ag3.trans x4) x5
      | bad => simp only [eb, SO.mapE] at post; exact post.elim
  · rintro σ H ⟨env, F, hr, hn, hf, gH, mt, ag, post⟩
    rw [List.drop_length] at post
    obtain ⟨F', y1, y2, y3⟩ := hfix env σ H F hr hn gH ag
    exact post σ H F' y1 y2 (hf.sub y3) ag
theorem mapE_id : ∀ o : SO, o.mapE id = o := fun o => by cases o <;> rfl
def sFor (it : PEnv → EO (List PV)) (t : TM) (body : SM) : SM := fun env => (it env).toS fun items e => forL t body items e
theorem im_sFor {wi : TI} {g : TG} {tb : TS} {it : PEnv → EO (List PV)} {t : TM} {body : SM} (hi : ImI K mg W wi it) (ht : ImTg K S1 g t) (hb : ImS K mg W S2 tb body) : ImS K mg W (S1 ++ S2) (tFor wi g tb) (sFor it t body) := by
  intro D σ0 H0 env0 F0 hr0 hn0 hp
  refine hi σ0 H0 _ env0 F0 hr0 hn0 (hp.ofE.imp fun items e1 q1 J H1 Fi F1 hr1 hn1 hf1 wk => ?_)
  obtain ⟨G, Y, w, g1, gk, mi, yy⟩ := wk
  exact im_forG (fix := id) ht hb w hr1 hn1 hf1 g1 gk mi yy (fun e σ H F r n _ _ => ⟨F, r, nd_right n, fun b z => List.mem_append_right _ z⟩) (by rw [mapE_id]; exact q1)
/-- a loop over a list that a name holds: it is held back meanwhile -/
def sForV (i : Nat) (t : TM) (body : SM) : SM := fun env => match env[i]? with
  | some (some (.lst xs)) => if immL xs = true then (forL t body xs (env.set i none)).mapE (fun e => e.set i (some (.lst xs))) else .bad
  | _ => .bad
theorem im_sForV {i : Nat} {g : TG} {tb : TS} {t : TM} {body : SM} (ht : ImTg K S1 g t) (hb : ImS K mg W S2 tb body) (hi : i ∉ S1 ++ S2) : ImS K mg W (S1 ++ S2) (tFor (iList K (tVar i)) g tb) (sForV i t body) := by
  intro D σ0 H0 env0 F0 hr0 hn0 hp
  unfold sForV at hp
  split at hp
  · rename_i xs e
    by_cases him : immL xs = true
    · rw [if_pos him] at hp
      obtain ⟨v, Fi, F2, e1, h1, h2, p⟩ := hr0.take e
      simp only [RV] at h1
      obtain ⟨a, vs, F', rfl, ha, hl, rfl⟩ := h1
      have eF' := RVL.imm him hl
      subst eF'
      have n0 : ([a] ++ F2).Nodup := nodup_of_perm p.symm hn0
      refine ⟨_, e1, a, rfl, ⟨vs, SqL.of ha⟩, ?_⟩
      refine im_forG (Fi := [a]) (F1 := F2) (G := fun H => H a = some (.lst vs) ∧ RVL K H xs vs []) (Y := fun i H x H' => H' = H ∧ vs[i]? = some x) ht hb ?_ h2 n0 ⟨Kp.refl, fun b z => .inl (p.symm.subset z)⟩ ⟨ha, hl⟩ ?_ ?_ ?_ ?_ hp
      · rw [← hl.length]; exact (walk_list (K := K) (a := a) (xs := vs)).mono (fun H z => SqL.of z.1) fun _ _ _ _ _ _ y => y
      · exact fun H1 H2 z k => ⟨k a _ z.1 (.inl (by simp)), z.2.keep fun b o e m => k b o e (.inr (by simpa using m))⟩
      · intro b z; simp at z; subst z; exact ⟨_, ha, rfl⟩
      · rintro j H3 x H4 z ⟨rfl, y⟩
        exact ⟨fun _ _ e => e, fun q eq => by
          obtain ⟨v, F1, a, b, c⟩ := z.2.get eq
          rw [y] at a; cases a
          have : F1 = [] := List.eq_nil_iff_forall_not_mem.mpr fun b z => by simpa using c b z
          rw [this] at b; exact b⟩
      · intro e2 σ H F hr hn hG ag
        obtain ⟨F1, r1, s1⟩ := hr.forget (i := i)
        have hσ : σ[i]? = some (some (V.ref a)) := by rw [ag.at_ i hi]; exact e1
        have hlen : i < e2.length := by
          rw [← hr.len]
          exact (List.getElem?_eq_some_iff.mp hσ).1
        have rv : RV K H (.lst xs) (.ref a) [a] := by simp only [RV]; exact ⟨a, vs, [], rfl, hG.1, hG.2, rfl⟩
        obtain ⟨F', r', p'⟩ := r1.put hlen hσ rv
        refine ⟨F', r', nodup_of_perm p' (hn.sublist (List.Sublist.append (List.Sublist.refl _) s1)), fun b hb => ?_⟩
        rcases List.mem_append.mp (p'.subset hb) with z | z
        · exact List.mem_append_left _ z
        · exact List.mem_append_right _ (s1.subset z)
    · rw [if_neg him] at hp; exact hp.elim
  · exact hp.elim
/-! sources -/
theorem RVL.at_imm {H : Hp} {xs : List PV} {vs : List V} {F : List Addr} (hi : immL xs = true) (h : RVL K H xs vs F) {i : Nat} {p : PV} {x : V} (e1 : xs[i]? = some p) (e2 : vs[i]? = some x) : RV K H p x [] := by
  obtain ⟨v, F1, a, b, c⟩ := h.get e1
  rw [e2] at a; cases a
  have e := RVL.imm hi h
  subst e
  have : F1 = [] := List.eq_nil_iff_forall_not_mem.mpr fun b z => by simpa using c b z
  rw [this] at b; exact b
/-- a value that is walked: its items must have no mutable part -/
def itemsOf : PV → Option (List PV)
  | .lst xs => if immL xs = true then some xs else none
  | .frz xs => if immL xs = true then some xs else none
  | _ => none
def itemsOfT : PV → Option (List PV)
  | .tup xs => if immL xs = true then some xs else none
  | _ => none
/-- for .. in e, e a list -/
def itL (m : EM) : PEnv → EO (List PV) := fun env => (m env).bind fun x e => match itemsOf x with
  | some xs => .ok xs e
  | none => .bad
theorem im_itL {te : TE} {m : EM} (h : ImE K mg W te m) : ImI K mg W (iList K te) (itL m) := by
  intro σ H R env F hr hn hp
  refine h σ H _ env F hr hn (hp.bind.imp fun x e1 q1 v H1 Fv F1 hr1 hx hn1 hf1 => ?_)
  cases e : itemsOf x with
  | none => simp only [e] at q1; exact q1.elim
  | some xs =>
    simp only [e] at q1
    cases x with
    | lst ys =>
      simp only [itemsOf] at e
      split at e
      · rename_i hi
        cases e
        simp only [RV] at hx
        obtain ⟨a, vs, F', e2, h2, hl, eF⟩ := hx
        have eF' := RVL.imm hi hl
        subst eF'; subst eF
        refine ⟨a, e2, ⟨vs, SqL.of h2⟩, q1 _ H1 [a] F1 hr1 hn1 hf1 ⟨fun H => H a = some (.lst vs) ∧ RVL K H xs vs [], _, by rw [← hl.length]; exact (walk_list (K := K) (a := a) (xs := vs)).mono (fun H z => SqL.of z.1) fun _ _ _ _ _ _ y => y, ⟨h2, hl⟩, ?_, ?_, ?_⟩⟩
        · exact fun H1 H2 z k => ⟨k a _ z.1 (.inl (by simp)), z.2.keep fun b o e m => k b o e (.inr (by simpa using m))⟩
        · intro b z; simp at z; subst z; exact ⟨_, h2, rfl⟩
        · rintro i H3 x H4 z ⟨rfl, y⟩
          exact ⟨fun _ _ e => e, fun p ep => z.2.at_imm hi ep y⟩
      · cases e
    | frz ys =>
      simp only [itemsOf] at e
      split at e
      · rename_i hi
        cases e
        simp only [RV] at hx
        obtain ⟨a, vs, e2, h2, hl, eF⟩ := hx
        subst eF
        refine ⟨a, e2, ⟨vs, h2.toL⟩, q1 _ H1 [] F1 hr1 hn1 hf1 ⟨fun H => SqF K H a vs ∧ RVL K H xs vs [], _, by rw [← hl.length]; exact (walk_list (K := K) (a := a) (xs := vs)).mono (fun H z => z.1.toL) fun _ _ _ _ _ _ y => y, ⟨h2, hl⟩, ?_, ?_, ?_⟩⟩
        · exact fun H1 H2 z k => ⟨z.1.kp fun b o e m => k b o e (.inr m), z.2.keep fun b o e m => k b o e (.inr (by simpa using m))⟩
        · intro b z; simp at z
        · rintro i H3 x H4 z ⟨rfl, y⟩
          exact ⟨fun _ _ e => e, fun p ep => z.2.at_imm hi ep y⟩
      · cases e
    | _ => simp [itemsOf] at e
/-- .. a tuple -/
def itT (m : EM) : PEnv → EO (List PV) := fun env => (m env).bind fun x e => match itemsOfT x with
  | some xs => .ok xs e
  | none => .bad
theorem im_itT {te : TE} {m : EM} (h : ImE K mg W te m) : ImI K mg W (iTup K te) (itT m) := by
  intro σ H R env F hr hn hp
  refine h σ H _ env F hr hn (hp.bind.imp fun x e1 q1 v H1 Fv F1 hr1 hx hn1 hf1 => ?_)
  cases e : itemsOfT x with
  | none => simp only [e] at q1; exact q1.elim
  | some xs =>
    simp only [e] at q1
    cases x with
    | tup ys =>
      simp only [itemsOfT] at e
      split at e
      · rename_i hi
        cases e
        simp only [RV] at hx
        obtain ⟨a, vs, e2, h2, hl⟩ := hx
        have eF' := RVL.imm hi hl
        subst eF'
        refine ⟨a, e2, ⟨vs, h2⟩, q1 _ H1 [] F1 hr1 hn1 hf1 ⟨fun H => SqT K H a vs ∧ RVL K H xs vs [], _, by rw [← hl.length]; exact (walk_tup (K := K) (a := a) (xs := vs)).mono (fun H z => z.1) fun _ _ _ _ _ _ y => y, ⟨h2, hl⟩, ?_, ?_, ?_⟩⟩
        · exact fun H1 H2 z k => ⟨SqT.kp z.1 fun b o e m => k b o e (.inr m), z.2.keep fun b o e m => k b o e (.inr (by simpa using m))⟩
        · intro b z; simp at z
        · rintro i H3 x H4 z ⟨rfl, y⟩
          exact ⟨fun _ _ e => e, fun p ep => z.2.at_imm hi ep y⟩
      · cases e
    | _ => simp [itemsOfT] at e
/-- range -/
def rngL (lo : Int) (n : Nat) : List PV := (List.range n).map fun k => .int (lo + (k : Nat))
theorem ints_len (lo : Int) (n : Nat) : (rngL lo n).length = n := by simp [rngL]
theorem ints_get {lo : Int} {n i : Nat} {p : PV} (h : (rngL lo n)[i]? = some p) : p = .int (lo + (i : Nat)) := by
  simp only [rngL, List.getElem?_map, Option.map_eq_some_iff] at h
  obtain ⟨k, hk, e⟩ := h
  have e2 : k = i := by
    have := List.getElem?_eq_some_iff.mp hk
    obtain ⟨_, e⟩ := this
    simpa using e.symm
  rw [← e, e2]
theorem walk_rngL {H : Hp} (lo : Int) (n : Nat) : WalkP K (Itr lo n) (rngL lo n) [] H := by
  refine ⟨fun _ => True, _, by rw [ints_len]; exact walk_range, trivial, fun _ _ _ _ => trivial, by intro b z; simp at z, ?_⟩
  rintro i H1 x H2 _ ⟨rfl, rfl⟩
  exact ⟨fun _ _ e => e, fun p ep => by rw [ints_get ep]; simp [RV]⟩
/-- a bound that range takes (told so that the kernel is stuck on a symbolic one) -/
def rngOk (j : Int) : Prop := j.natAbs < 2 ^ 62
instance (j : Int) : Decidable (rngOk j) := Nat.decLt _ _
theorem rngOk_of {j : Int} (h1 : -1000000000 ≤ j) (h2 : j ≤ 1000000000) : rngOk j := by
  unfold rngOk
  omega
def itR1 (a : AM) : PEnv → EO (List PV) := fun env => (a env).bind fun as e => match seeL e as with
  | some [.int j] => if rngOk j then .ok (rngL 0 j.toNat) e else .bad
  | _ => .bad
theorem im_itR1 {ta : TA} {a : AM} (h : ImA K mg W ta a) : ImI K mg W (iRng1 ta) (itR1 a) := by
  intro σ H R env F hr hn hp
  refine h σ H _ env F hr hn (hp.bind.imp fun as e1 q1 vs H1 Fv F1 hr1 hx hn1 hf1 => ?_)
  cases es : seeL e1 as with
  | none => rw [es] at q1; exact q1.elim
  | some ps =>
    rw [es] at q1
    have hb := seeL_ok hr1 hx es
    split at q1
    · rename_i j ep
      cases ep
      simp only [RB, RV] at hb
      obtain ⟨v, _, _, rfl, ⟨rfl, _⟩, rfl⟩ := hb
      by_cases hj : rngOk j
      · simp only [hj, if_true] at q1
        have hj' : j.natAbs < 2 ^ 62 := hj
        exact ⟨j, rfl, by omega, by omega, q1 _ H1 [] F1 hr1 (nd_right hn1) (fm_left hf1) (walk_rngL 0 _)⟩
      · simp only [hj, if_false] at q1; exact q1.elim
    · exact q1.elim
def itR2 (a : AM) : PEnv → EO (List PV) := fun env => (a env).bind fun as e => match seeL e as with
  | some [.int i, .int j] => if rngOk i ∧ rngOk j then .ok (rngL i (j - i).toNat) e else .bad
  | _ => .bad
theorem im_itR2 {ta : TA} {a : AM} (h : ImA K mg W ta a) : ImI K mg W (iRng2 ta) (itR2 a) := by
  intro σ H R env F hr hn hp
  refine h σ H _ env F hr hn (hp.bind.imp fun as e1 q1 vs H1 Fv F1 hr1 hx hn1 hf1 => ?_)
  cases es : seeL e1 as with
  | none => rw [es] at q1; exact q1.elim
  | some ps =>
    rw [es] at q1
    have hb := seeL_ok hr1 hx es
    split at q1
    · rename_i i j ep
      cases ep
      simp only [RB, RV] at hb
      obtain ⟨v, _, _, rfl, ⟨rfl, _⟩, w, _, _, rfl, ⟨rfl, _⟩, rfl⟩ := hb
      by_cases hj : rngOk i ∧ rngOk j
      · simp only [hj, and_self, if_true] at q1
        have hi' : i.natAbs < 2 ^ 62 := hj.1
        have hj' : j.natAbs < 2 ^ 62 := hj.2
        exact ⟨i, j, rfl, ⟨by omega, by omega, by omega, by omega⟩, q1 _ H1 [] F1 hr1 (nd_right hn1) (fm_left hf1) (walk_rngL i _)⟩
      · simp only [hj, if_false] at q1; exact q1.elim
    · exact q1.elim

/-! ### while -/
def whileL (c : BM) (body : SM) : Nat → SM
  | 0, _ => .bad
  | n + 1, env => (c env).toS fun b e => if b = true then (match body e with
    | .next e => whileL c body n e
    | .cont e => whileL c body n e
    | .brk e => .next e
    | o => o) else .next e
theorem im_whileL {tc : TT} {tb : TS} {c : BM} {body : SM} (n : Nat) (hc : ImT K mg W tc c) (hb : ImS K mg W S tb body) : ImS K mg W S (tWhile tc tb) (whileL c body n) := by
  intro D σ0 H0 env0 F0 hr0 hn0 hp
  refine ⟨fun m σ H => ∃ env F, RE K H env σ F ∧ F.Nodup ∧ Fm F0 H0 F H ∧ Ag S σ0 σ ∧ PostS K mg W S D σ0 H0 F0 (whileL c body m env), ⟨n, env0, F0, hr0, hn0, Fm.refl, Ag.refl, hp⟩, ?_⟩
  rintro m σ H ⟨env, F, hr, hn, hf, ag, post⟩
  cases m with
  | zero => exact post.elim
  | succ m =>
    simp only [whileL] at post
    refine hc σ H _ env F hr hn ((post.ofE2 hf ag).imp fun b e1 q1 H1 F1 hr1 hn1 hf1 => ?_)
    cases b with
    | false =>
      rw [if_neg Bool.false_ne_true] at q1 ⊢
      exact q1 σ H1 F1 hr1 hn1 (hf.trans hf1) ag
    | true =>
      rw [if_pos rfl] at q1 ⊢
      refine ⟨fun σ' H' => ∃ env F, RE K H' env σ' F ∧ F.Nodup ∧ Fm F0 H0 F H' ∧ Ag S σ0 σ' ∧ PostS K mg W S D σ0 H0 F0 (whileL c body m env), fun σ' H' z => ⟨m, Nat.lt_succ_self m, z⟩, ?_⟩
      refine hb _ σ H1 e1 F1 hr1 hn1 ?_
      have hf2 := hf.trans hf1
      cases eb : body e1 with
      | next e3 =>
        simp only [eb] at q1
        exact fun σ3 H3 F3 x1 x2 x3 x4 => ⟨e3, F3, x1, x2, hf2.trans x3, ag.trans x4, q1⟩
      | cont e3 =>
        simp only [eb] at q1
        exact fun σ3 H3 F3 x1 x2 x3 x4 => ⟨e3, F3, x1, x2, hf2.trans x3, ag.trans x4, q1⟩
      | brk e3 =>
        simp only [eb] at q1
        exact fun σ3 H3 F3 x1 x2 x3 x4 => q1 σ3 H3 F3 x1 x2 (hf2.trans x3) (ag.trans x4)
      | ret v e3 =>
        simp only [eb] at q1
        exact fun v σ3 H3 Fv F3 x1 x2 x3 x4 x5 => q1 v σ3 H3 Fv F3 x1 x2 x3 (hf2.trans x4) (ag.trans x5)
      | exc v e3 =>
        simp only [eb] at q1
        exact fun cls d σ3 H3 F3 x1 x2 x3 x4 x5 => q1 cls d σ3 H3 F3 x1 x2 (hf2.trans x3) (ag.trans x4) x5
      | bad => simp only [eb] at q1; exact q1.elim
end
end PVL

/-! P4: comprehensions, methods that change a name's value, stores, calls, defs. -/
namespace PVL
open PySem PySem.Spec L2

section
variable {K : PySem.W.Frag} {mg : Str → Option Value} {W : WX} {S S1 S2 T : List Nat}
/-- only what env tells matters of σ -/
theorem RE.agree {H : Hp} : ∀ {env : PEnv} {σ σ' : L2.St} {F : List Addr}, RE K H env σ F → σ'.length = σ.length → (∀ (j : Nat) (x : PV), env[j]? = some (some x) → σ'[j]? = σ[j]?) → RE K H env σ' F
  | [], σ, σ', F, h, l, _ => by
    simp only [RE] at h ⊢
    rw [h.1] at l
    exact ⟨List.length_eq_zero_iff.mp l, h.2⟩
  | none :: e, σ, σ', F, h, l, k => by
    simp only [RE] at h ⊢
    obtain ⟨y, r, rfl, h⟩ := h
    cases σ' with
    | nil => simp at l
    | cons z r' => exact ⟨z, r', rfl, RE.agree h (by simpa using l) fun j x e => by simpa using k (j + 1) x (by simpa using e)⟩
  | some x :: e, σ, σ', F, h, l, k => by
    simp only [RE] at h ⊢
    obtain ⟨v, r, F1, F2, rfl, h1, h2, eF⟩ := h
    cases σ' with
    | nil => simp at l
    | cons z r' =>
      have z0 := k 0 x rfl
      simp at z0
      subst z0
      exact ⟨v, r', F1, F2, rfl, h1, RE.agree h2 (by simpa using l) fun j x e => by simpa using k (j + 1) x (by simpa using e), eF⟩
def envWipe (env : PEnv) : List Nat → PEnv
  | [] => env
  | v :: vs => (envWipe env vs).set v none
theorem envWipe_none {env : PEnv} {j : Nat} {x : PV} : ∀ {vs : List Nat}, j ∈ vs → (envWipe env vs)[j]? = some (some x) → False
  | [], h, _ => by simp at h
  | v :: vs, h, e => by
    simp only [envWipe] at e
    by_cases hj : j = v
    · subst hj
      rw [List.getElem?_set] at e
      simp at e
    · rw [List.getElem?_set_ne (Ne.symm hj)] at e
      exact envWipe_none (by simpa [hj] using h) e
theorem RE.wipe {H : Hp} {env : PEnv} {σ : L2.St} {F : List Addr} (h : RE K H env σ F) : ∀ vs : List Nat, ∃ F', RE K H (envWipe env vs) (L2.wipe σ vs) F' ∧ F'.Sublist F
  | [] => ⟨F, h, List.Sublist.refl _⟩
  | v :: vs => by
    obtain ⟨F1, a, b⟩ := RE.wipe h vs
    obtain ⟨F2, c, d⟩ := a.forget (i := v)
    exact ⟨F2, RE.anySlot c, d.trans b⟩
theorem wipe_in {σ : L2.St} {j : Nat} : ∀ {vs : List Nat}, j ∈ vs → j < σ.length → (L2.wipe σ vs)[j]? = some none
  | [], h, _ => by simp at h
  | v :: vs, h, l => by
    simp only [L2.wipe]
    by_cases hj : j = v
    · subst hj
      rw [List.getElem?_set_self (by rw [wipe_length]; exact l)]
    · rw [List.getElem?_set_ne (Ne.symm hj)]
      exact wipe_in (by simpa [hj] using h) l
theorem wipe_ag {σ σ2 : L2.St} {vs : List Nat} (a : Ag vs (L2.wipe σ vs) σ2) : L2.wipe σ2 vs = L2.wipe σ vs := by
  have ln : σ2.length = σ.length := by rw [a.len, wipe_length]
  apply List.ext_getElem?
  intro j
  by_cases hj : j ∈ vs
  · by_cases hl : j < σ.length
    · rw [wipe_in hj (by rw [ln]; exact hl), wipe_in hj hl]
    · rw [List.getElem?_eq_none (by rw [wipe_length]; omega), List.getElem?_eq_none (by rw [wipe_length]; omega)]
  · rw [wipe_out hj, a.at_ j hj]
theorem keep_upd {H : Hp} {p : Addr} {o o' : HO} {F : List Addr} (h : H p = some o) (m : mutO o = true) (n : p ∉ F) : ∀ b u, H b = some u → (b ∈ F ∨ mutO u = false) → upd H p o' b = some u := fun b u e q => by
  rw [upd_ne]
  · exact e
  · intro z; subst z
    rcases q with q | q
    · exact n q
    · rw [h] at e; cases e; rw [m] at q; cases q
def W0 : WX := fun _ _ _ _ => False

/-! ### comprehensions -/
def lcL (vs : List Nat) (t : TM) (c : BM) (m : EM) : List PV → List PV → PEnv → EO PV
  | [], acc, env => .ok (.lst acc) env
  | x :: r, acc, env => match t x env with
    | none => .bad
    | some e => match c e with
      | .ok b e2 => if b = true then (match m e2 with
          | .ok y e3 => if acc.length < sizeLine then lcL vs t c m r (acc ++ [y]) (envWipe e3 vs) else .bad
          | _ => .bad) else lcL vs t c m r acc (envWipe e2 vs)
      | _ => .bad
def eLC (it : PEnv → EO (List PV)) (vs : List Nat) (t : TM) (c : BM) (m : EM) : EM := fun env => (it env).bind fun items e => lcL vs t c m items [] (envWipe e vs)
theorem im_eLC {wi : TI} {g : TG} {tt : TT} {te : TE} {it : PEnv → EO (List PV)} {vs : List Nat} {t : TM} {c : BM} {m : EM} (hi : ImI K mg W wi it) (ht : ImTg K S1 g t) (hS : ∀ j ∈ S1, j ∈ vs) (hc : ImT K mg W0 tt c) (hm : ImE K mg W0 te m) :
    ImE K mg W (tLc wi g tt te vs) (eLC it vs t c m) := by
  intro σ H0 Q env0 F0 hr hn hp
  refine hi σ H0 _ env0 F0 hr hn (hp.bind.imp fun items e1 q1 J H1 Fi F1 hr1 hn1 hf1 wk => ?_)
  obtain ⟨G, Y, w, g1, gk, mi, yy⟩ := wk
  intro D hD
  obtain ⟨F2, hr2, sb2⟩ := hr1.wipe vs
  have s0 : Sm H1 (upd H1 D (.lst [])) := sm_upd hD
  have nD : ∀ {G : List Addr}, Mt H1 G → D ∉ G := fun mt z => by obtain ⟨o, e, _⟩ := mt D z; rw [hD] at e; cases e
  have hn2 : (Fi ++ F2).Nodup := hn1.sublist (List.Sublist.append (List.Sublist.refl _) sb2)
  refine lc_it w (fun i Hi => ∃ env F Fa acc accV, RE K Hi env (L2.wipe σ vs) F ∧ ((Fi ++ (D :: Fa)) ++ F).Nodup ∧ Fm (Fi ++ F1) H1 ((Fi ++ (D :: Fa)) ++ F) Hi ∧ G Hi ∧ Mt Hi (Fi ++ (D :: Fa)) ∧ Hi D = some (.lst accV) ∧ RVL K Hi acc accV Fa ∧ (∀ (j : Nat) (x : PV), env[j]? = some (some x) → j ∉ vs) ∧
    PostE K mg W σ H0 F0 (fun pv env' => ∀ v H' Fv F', RE K H' env' σ F' → RV K H' pv v Fv → (Fv ++ F').Nodup → Fm F0 H0 (Fv ++ F') H' → Q v H') (lcL vs t c m (items.drop i) acc env)) ?_ ?_ ?_ ?_
  · refine ⟨envWipe e1 vs, F2, [], [], [], hr2.sm s0, ?_, ?_, gk _ _ g1 fun b o e _ => s0 b o e, ?_, upd_same, by simp [RVL], fun j x e z => envWipe_none z e, by simpa using q1⟩
    · rw [List.append_assoc, List.singleton_append, List.perm_middle.nodup_iff]
      refine List.nodup_cons.mpr ⟨fun z => ?_, hn2⟩
      rcases List.mem_append.mp z with z | z
      · exact nD mi z
      · exact nD hr1.mt (sb2.subset z)
    · refine Fm.of_sm s0 fun b z => ?_
      simp only [List.append_assoc, List.singleton_append, List.mem_append, List.mem_cons] at z ⊢
      rcases z with z | z | z
      · exact .inl (.inl z)
      · exact .inr (by rw [z]; exact hD)
      · exact .inl (.inr (sb2.subset z))
    · intro b z
      rcases List.mem_append.mp z with z | z
      · obtain ⟨o, e, m⟩ := mi b z; exact ⟨o, s0 b o e, m⟩
      · simp at z; subst z; exact ⟨_, upd_same, rfl⟩
  · exact fun i H _ ⟨_, _, _, _, _, _, _, _, z, _⟩ => z
  · rintro i x Hi H' hlt ⟨env, F, Fa, acc, accV, hr, hn, hf, gH, mt, eD, hl, nv, post⟩ y
    obtain ⟨s1, rx⟩ := yy i Hi x H' gH y
    have hx : items[i]? = some items[i] := by simp [hlt]
    have rx := rx _ hx
    rw [drop_cons hlt] at post
    simp only [lcL] at post
    refine ht items[i] x (L2.wipe σ vs) H' env F [] _ (hr.sm s1) rx (by simpa using nd_right hn) ?_
    cases e : t items[i] env with
    | none => simp only [e] at post; exact post.elim
    | some e2 =>
      simp only [e] at post
      intro σ2 G2 r2 n2 sub ag
      have sub : ∀ b ∈ G2, b ∈ F := fun b z => by simpa using sub b z
      have ew := wipe_ag (ag.mono hS)
      refine ⟨ew, ?_⟩
      have nG : ((Fi ++ (D :: Fa)) ++ G2).Nodup := by
        rw [List.nodup_append] at hn ⊢
        exact ⟨hn.1, n2, fun a ha b hb => hn.2.2 a ha b (sub b hb)⟩
      have mt' : Mt H' (Fi ++ (D :: Fa)) := fun b z => by obtain ⟨o, e, m⟩ := mt b z; exact ⟨o, s1 b o e, m⟩
      have f2 : Fm (Fi ++ F1) H1 ((Fi ++ (D :: Fa)) ++ G2) H' := (hf.trans (Fm.of_sm s1 fun b z => .inl z)).sub fun b z => by
        rcases List.mem_append.mp z with z | z
        · exact List.mem_append_left _ z
        · exact List.mem_append_right _ (sub b z)
      have gH' : G H' := gk Hi H' gH fun b o e _ => s1 b o e
      have inFi : ∀ {b : Addr}, b ∈ Fi → b ∈ Fi ++ (D :: Fa) := fun z => List.mem_append_left _ z
      refine hc σ2 H' _ e2 G2 r2 n2 ?_
      cases ec : c e2 with
      | bad => simp only [ec] at post; exact post.elim
      | exc _ _ => simp only [ec] at post; exact post.elim
      | ok b e3 =>
        simp only [ec] at post
        intro H3 F3 r3 n3 f3
        have k3 := keep_ap nG r2.mt f3
        have nG3 := nd_later nG mt' f3 n3
        have f23 := fm_both f2 f3 mt'
        have eD3 : H3 D = some (.lst accV) := k3 D _ (s1 D _ eD) (.inl (by simp))
        have mt3 : Mt H3 (Fi ++ (D :: Fa)) := fun b z => by obtain ⟨o, e, m⟩ := mt' b z; exact ⟨o, k3 b o e (.inl z), m⟩
        have hl3 : RVL K H3 acc accV Fa := (hl.sm s1).keep fun b o e m => k3 b o e (m.imp (fun z => by simp [z]) id)
        have gH3 : G H3 := gk H' H3 gH' fun b o e m => k3 b o e (m.imp inFi id)
        cases b with
        | false =>
          simp only [Bool.false_eq_true, if_false] at post ⊢
          obtain ⟨F4, r4, sb4⟩ := r3.wipe vs
          rw [ew] at r4
          exact ⟨envWipe e3 vs, F4, Fa, acc, accV, r4, nG3.sublist (List.Sublist.append (List.Sublist.refl _) sb4), f23.sub (fun b z => by
            rcases List.mem_append.mp z with z | z
            · exact List.mem_append_left _ z
            · exact List.mem_append_right _ (sb4.subset z)), gH3, mt3, eD3, hl3, fun j x e z => envWipe_none z e, post⟩
        | true =>
          simp only [if_true] at post ⊢
          refine hm σ2 H3 _ e3 F3 r3 n3 ?_
          cases em : m e3 with
          | bad => simp only [em] at post; exact post.elim
          | exc _ _ => simp only [em] at post; exact post.elim
          | ok yv e4 =>
            simp only [em] at post
            intro v H4 Fy F4 r4 hy n4 f4
            have k4 := keep_ap nG3 r3.mt f4
            have nG4 := nd_later nG3 mt3 f4 n4
            have f24 := fm_both f23 f4 mt3
            have eD4 : H4 D = some (.lst accV) := k4 D _ eD3 (.inl (by simp))
            have hl4 : RVL K H4 acc accV Fa := hl3.keep fun b o e m => k4 b o e (m.imp (fun z => by simp [z]) id)
            have gH4 : G H4 := gk H3 H4 gH3 fun b o e m => k4 b o e (m.imp inFi id)
            have nn := nG4
            simp only [List.append_assoc, List.cons_append, List.perm_middle.nodup_iff, List.nodup_cons, List.mem_append, not_or] at nn
            obtain ⟨⟨nFi, nFa, nFy, nF4⟩, _⟩ := nn
            by_cases hz : acc.length < sizeLine
            · simp only [hz, if_true] at post
              refine ⟨accV, eD4, by rw [hl.length]; exact hz, ?_⟩
              obtain ⟨F5, r5, sb5⟩ := (r4.keep (keep_upd (o' := .lst (accV ++ [v])) eD4 rfl nF4)).wipe vs
              rw [ew] at r5
              refine ⟨envWipe e4 vs, F5, Fa ++ Fy, acc ++ [yv], accV ++ [v], r5, ?_, ?_, gk _ _ gH4 (keep_upd eD4 rfl nFi), ?_, upd_same, ?_, fun j x e z => envWipe_none z e, post⟩
              · have q : ((Fi ++ (D :: Fa)) ++ (Fy ++ F5)).Nodup := nG4.sublist (List.Sublist.append (List.Sublist.refl _) (List.Sublist.append (List.Sublist.refl _) sb5))
                simpa [List.append_assoc] using q
              · refine f24.trans ⟨fun b o nb e => ?_, fun b z => .inl ?_⟩
                · rw [upd_ne]
                  · exact e
                  · intro q; subst q; exact nb (by simp)
                · simp only [List.append_assoc, List.cons_append, List.mem_append, List.mem_cons] at z ⊢
                  rcases z with z | z | z | z | z
                  · exact .inl z
                  · exact .inr (.inl z)
                  · exact .inr (.inr (.inl z))
                  · exact .inr (.inr (.inr (.inl z)))
                  · exact .inr (.inr (.inr (.inr (sb5.subset z))))
              · intro b z
                by_cases hb : b = D
                · subst hb; exact ⟨_, upd_same, rfl⟩
                · rw [upd_ne hb]
                  simp only [List.mem_append, List.mem_cons] at z
                  rcases z with z | z | z | z
                  · obtain ⟨o, e, m⟩ := mt3 b (inFi z); exact ⟨o, k4 b o e (.inl (inFi z)), m⟩
                  · exact absurd z hb
                  · exact hl4.mt b z
                  · exact hy.mt b z
              · exact (hl4.append (RVL.one hy)).keep (keep_upd eD4 rfl (by
                  rw [List.mem_append, not_or]; exact ⟨nFa, nFy⟩))
            · simp only [hz, if_false] at post; exact post.elim
  · rintro H ⟨env, F, Fa, acc, accV, hr, hn, hf, gH, mt, eD, hl, nv, post⟩
    rw [List.drop_length] at post
    simp only [lcL, PostE] at post
    have n2 : ((D :: Fa) ++ F).Nodup := by
      rw [List.append_assoc] at hn
      exact (List.nodup_append.mp hn).2.1
    refine post (.ref D) H (D :: Fa) F (hr.agree (by rw [wipe_length]) fun j x e => (wipe_out (nv j x e)).symm) ?_ n2 ((hf1.trans hf).sub fun b z => ?_)
    · simp only [RV]; exact ⟨D, accV, Fa, rfl, eD, hl, rfl⟩
    · rw [List.append_assoc]; exact List.mem_append_right _ z
end
end PVL

/-! P4b: loops and comprehensions over a list that a name holds. -/
namespace PVL
open PySem PySem.Spec L2
section
variable {K : PySem.W.Frag} {mg : Str → Option Value} {W : WX} {S S1 S2 T : List Nat}
def EO.mapE {α : Type} (f : PEnv → PEnv) : EO α → EO α
  | .ok a e => .ok a (f e)
  | .exc x e => .exc x (f e)
  | .bad => .bad
@[simp] theorem EO.mapE_ok {α : Type} (f : PEnv → PEnv) (a : α) (e : PEnv) : (EO.ok a e).mapE f = .ok a (f e) := rfl
@[simp] theorem EO.mapE_exc {α : Type} (f : PEnv → PEnv) (x : PX) (e : PEnv) : (EO.exc x e : EO α).mapE f = .exc x (f e) := rfl
@[simp] theorem EO.mapE_bad {α : Type} (f : PEnv → PEnv) : (EO.bad : EO α).mapE f = .bad := rfl
theorem im_lcG {g : TG} {tt : TT} {te : TE} {vs : List Nat} {t : TM} {c : BM} {m : EM} {fix : PEnv → PEnv} (ht : ImTg K S1 g t) (hS : ∀ j ∈ S1, j ∈ vs) (hc : ImT K mg W0 tt c) (hm : ImE K mg W0 te m)
    {Q : VK} {σ : L2.St} {H0 : Hp} {F0 : List Addr} {J : It} {items : List PV} {e1 : PEnv} {H1 : Hp} {F1 Fi : List Addr} {G : Hp → Prop} {Y : Nat → Hp → V → Hp → Prop}
    (w : Walk J items.length G Y) (hr1 : RE K H1 e1 σ F1) (hn1 : (Fi ++ F1).Nodup) (hf1 : Fm F0 H0 (Fi ++ F1) H1) (g1 : G H1) (gk : ∀ H1 H2, G H1 → (∀ b o, H1 b = some o → (b ∈ Fi ∨ mutO o = false) → H2 b = some o) → G H2) (mi : Mt H1 Fi)
    (yy : ∀ i H1 x H2, G H1 → Y i H1 x H2 → Sm H1 H2 ∧ ∀ p, items[i]? = some p → RV K H2 p x [])
    (hfix : ∀ e H F, RE K H e σ F → (Fi ++ F).Nodup → G H → ∃ F', RE K H (fix e) σ F' ∧ F'.Nodup ∧ ∀ b ∈ F', b ∈ Fi ++ F)
    (q1 : PostE K mg W σ H0 F0 (fun pv env' => ∀ v H' Fv F', RE K H' env' σ F' → RV K H' pv v Fv → (Fv ++ F').Nodup → Fm F0 H0 (Fv ++ F') H' → Q v H') ((lcL vs t c m items [] (envWipe e1 vs)).mapE fix)) :
    ∀ D, H1 D = none → ∃ W : Nat → Nat → Hp → Prop, (∃ m, W 0 m (upd H1 D (.lst []))) ∧ ∀ i m H, W i m H →
  (J.stop i H ∧ Q (.ref D) H) ∨ (J.go i H ∧ ∃ Nx : Hp → Prop, (∀ H', Nx H' → ∃ m', m' < m ∧ W (i + 1) m' H') ∧ ∀ x H', J.yld i H x H' → g x (L2.wipe σ vs) H' fun σ2 H2 => L2.wipe σ2 vs = L2.wipe σ vs ∧ tt σ2 H2 fun b H3 =>
    if b = true then te σ2 H3 fun y H4 => ∃ acc, H4 D = some (.lst acc) ∧ acc.length < sizeLine ∧ Nx (upd H4 D (.lst (acc ++ [y]))) else Nx H3) := by
  intro D hD
  obtain ⟨F2, hr2, sb2⟩ := hr1.wipe vs
  have s0 : Sm H1 (upd H1 D (.lst [])) := sm_upd hD
  have nD : ∀ {G : List Addr}, Mt H1 G → D ∉ G := fun mt z => by obtain ⟨o, e, _⟩ := mt D z; rw [hD] at e; cases e
  have hn2 : (Fi ++ F2).Nodup := hn1.sublist (List.Sublist.append (List.Sublist.refl _) sb2)
  refine lc_it w (fun i Hi => ∃ env F Fa acc accV, RE K Hi env (L2.wipe σ vs) F ∧ ((Fi ++ (D :: Fa)) ++ F).Nodup ∧ Fm (Fi ++ F1) H1 ((Fi ++ (D :: Fa)) ++ F) Hi ∧ G Hi ∧ Mt Hi (Fi ++ (D :: Fa)) ∧ Hi D = some (.lst accV) ∧ RVL K Hi acc accV Fa ∧ (∀ (j : Nat) (x : PV), env[j]? = some (some x) → j ∉ vs) ∧
    PostE K mg W σ H0 F0 (fun pv env' => ∀ v H' Fv F', RE K H' env' σ F' → RV K H' pv v Fv → (Fv ++ F').Nodup → Fm F0 H0 (Fv ++ F') H' → Q v H') ((lcL vs t c m (items.drop i) acc env).mapE fix)) ?_ ?_ ?_ ?_
  · refine ⟨envWipe e1 vs, F2, [], [], [], hr2.sm s0, ?_, ?_, gk _ _ g1 fun b o e _ => s0 b o e, ?_, upd_same, by simp [RVL], fun j x e z => envWipe_none z e, by simpa using q1⟩
    · rw [List.append_assoc, List.singleton_append, List.perm_middle.nodup_iff]
      refine List.nodup_cons.mpr ⟨fun z => ?_, hn2⟩
      rcases List.mem_append.mp z with z | z
      · exact nD mi z
      · exact nD hr1.mt (sb2.subset z)
    · refine Fm.of_sm s0 fun b z => ?_
      simp only [List.append_assoc, List.singleton_append, List.mem_append, List.mem_cons] at z ⊢
      rcases z with z | z | z
      · exact .inl (.inl z)
      · exact .inr (by rw [z]; exact hD)
      · exact .inl (.inr (sb2.subset z))
    · intro b z
      rcases List.mem_append.mp z with z | z
      · obtain ⟨o, e, m⟩ := mi b z; exact ⟨o, s0 b o e, m⟩
      · simp at z; subst z; exact ⟨_, upd_same, rfl⟩
  · exact fun i H _ ⟨_, _, _, _, _, _, _, _, z, _⟩ => z
  · rintro i x Hi H' hlt ⟨env, F, Fa, acc, accV, hr, hn, hf, gH, mt, eD, hl, nv, post⟩ y
    obtain ⟨s1, rx⟩ := yy i Hi x H' gH y
    have hx : items[i]? = some items[i] := by simp [hlt]
    have rx := rx _ hx
    rw [drop_cons hlt] at post
    simp only [lcL] at post
    refine ht items[i] x (L2.wipe σ vs) H' env F [] _ (hr.sm s1) rx (by simpa using nd_right hn) ?_
    cases e : t items[i] env with
    | none => simp only [e, EO.mapE_bad] at post; exact post.elim
    | some e2 =>
      simp only [e] at post
      intro σ2 G2 r2 n2 sub ag
      have sub : ∀ b ∈ G2, b ∈ F := fun b z => by simpa using sub b z
      have ew := wipe_ag (ag.mono hS)
      refine ⟨ew, ?_⟩
      have nG : ((Fi ++ (D :: Fa)) ++ G2).Nodup := by
        rw [List.nodup_append] at hn ⊢
        exact ⟨hn.1, n2, fun a ha b hb => hn.2.2 a ha b (sub b hb)⟩
      have mt' : Mt H' (Fi ++ (D :: Fa)) := fun b z => by obtain ⟨o, e, m⟩ := mt b z; exact ⟨o, s1 b o e, m⟩
      have f2 : Fm (Fi ++ F1) H1 ((Fi ++ (D :: Fa)) ++ G2) H' := (hf.trans (Fm.of_sm s1 fun b z => .inl z)).sub fun b z => by
        rcases List.mem_append.mp z with z | z
        · exact List.mem_append_left _ z
        · exact List.mem_append_right _ (sub b z)
      have gH' : G H' := gk Hi H' gH fun b o e _ => s1 b o e
      have inFi : ∀ {b : Addr}, b ∈ Fi → b ∈ Fi ++ (D :: Fa) := fun z => List.mem_append_left _ z
      refine hc σ2 H' _ e2 G2 r2 n2 ?_
      cases ec : c e2 with
      | bad => simp only [ec, EO.mapE_bad] at post; exact post.elim
      | exc _ _ => simp only [ec, EO.mapE_bad] at post; exact post.elim
      | ok b e3 =>
        simp only [ec] at post
        intro H3 F3 r3 n3 f3
        have k3 := keep_ap nG r2.mt f3
        have nG3 := nd_later nG mt' f3 n3
        have f23 := fm_both f2 f3 mt'
        have eD3 : H3 D = some (.lst accV) := k3 D _ (s1 D _ eD) (.inl (by simp))
        have mt3 : Mt H3 (Fi ++ (D :: Fa)) := fun b z => by obtain ⟨o, e, m⟩ := mt' b z; exact ⟨o, k3 b o e (.inl z), m⟩
        have hl3 : RVL K H3 acc accV Fa := (hl.sm s1).keep fun b o e m => k3 b o e (m.imp (fun z => by simp [z]) id)
        have gH3 : G H3 := gk H' H3 gH' fun b o e m => k3 b o e (m.imp inFi id)
        cases b with
        | false =>
          simp only [Bool.false_eq_true, if_false] at post ⊢
          obtain ⟨F4, r4, sb4⟩ := r3.wipe vs
          rw [ew] at r4
          exact ⟨envWipe e3 vs, F4, Fa, acc, accV, r4, nG3.sublist (List.Sublist.append (List.Sublist.refl _) sb4), f23.sub (fun b z => by
            rcases List.mem_append.mp z with z | z
            · exact List.mem_append_left _ z
            · exact List.mem_append_right _ (sb4.subset z)), gH3, mt3, eD3, hl3, fun j x e z => envWipe_none z e, post⟩
        | true =>
          simp only [if_true] at post ⊢
          refine hm σ2 H3 _ e3 F3 r3 n3 ?_
          cases em : m e3 with
          | bad => simp only [em, EO.mapE_bad] at post; exact post.elim
          | exc _ _ => simp only [em, EO.mapE_bad] at post; exact post.elim
          | ok yv e4 =>
            simp only [em] at post
            intro v H4 Fy F4 r4 hy n4 f4
            have k4 := keep_ap nG3 r3.mt f4
            have nG4 := nd_later nG3 mt3 f4 n4
            have f24 := fm_both f23 f4 mt3
            have eD4 : H4 D = some (.lst accV) := k4 D _ eD3 (.inl (by simp))
            have hl4 : RVL K H4 acc accV Fa := hl3.keep fun b o e m => k4 b o e (m.imp (fun z => by simp [z]) id)
            have gH4 : G H4 := gk H3 H4 gH3 fun b o e m => k4 b o e (m.imp inFi id)
            have nn := nG4
            simp only [List.append_assoc, List.cons_append, List.perm_middle.nodup_iff, List.nodup_cons, List.mem_append, not_or] at nn
            obtain ⟨⟨nFi, nFa, nFy, nF4⟩, _⟩ := nn
            by_cases hz : acc.length < sizeLine
            · simp only [hz, if_true] at post
              refine ⟨accV, eD4, by rw [hl.length]; exact hz, ?_⟩
              obtain ⟨F5, r5, sb5⟩ := (r4.keep (keep_upd (o' := .lst (accV ++ [v])) eD4 rfl nF4)).wipe vs
              rw [ew] at r5
              refine ⟨envWipe e4 vs, F5, Fa ++ Fy, acc ++ [yv], accV ++ [v], r5, ?_, ?_, gk _ _ gH4 (keep_upd eD4 rfl nFi), ?_, upd_same, ?_, fun j x e z => envWipe_none z e, post⟩
              · have q : ((Fi ++ (D :: Fa)) ++ (Fy ++ F5)).Nodup := nG4.sublist (List.Sublist.append (List.Sublist.refl _) (List.Sublist.append (List.Sublist.refl _) sb5))
                simpa [List.append_assoc] using q
              · refine f24.trans ⟨fun b o nb e => ?_, fun b z => .inl ?_⟩
                · rw [upd_ne]
                  · exact e
                  · intro q; subst q; exact nb (by simp)
                · simp only [List.append_assoc, List.cons_append, List.mem_append, List.mem_cons] at z ⊢
                  rcases z with z | z | z | z | z
                  · exact .inl z
                  · exact .inr (.inl z)
                  · exact .inr (.inr (.inl z))
                  · exact .inr (.inr (.inr (.inl z)))
                  · exact .inr (.inr (.inr (.inr (sb5.subset z))))
              · intro b z
                by_cases hb : b = D
                · subst hb; exact ⟨_, upd_same, rfl⟩
                · rw [upd_ne hb]
                  simp only [List.mem_append, List.mem_cons] at z
                  rcases z with z | z | z | z
                  · obtain ⟨o, e, m⟩ := mt3 b (inFi z); exact ⟨o, k4 b o e (.inl (inFi z)), m⟩
                  · exact absurd z hb
                  · exact hl4.mt b z
                  · exact hy.mt b z
              · exact (hl4.append (RVL.one hy)).keep (keep_upd eD4 rfl (by
                  rw [List.mem_append, not_or]; exact ⟨nFa, nFy⟩))
            · simp only [hz, if_false, EO.mapE_bad] at post; exact post.elim
  · rintro H ⟨env, F, Fa, acc, accV, hr, hn, hf, gH, mt, eD, hl, nv, post⟩
    rw [List.drop_length] at post
    simp only [lcL, EO.mapE_ok, PostE] at post
    have n2 : (Fi ++ F).Nodup := hn.sublist (List.Sublist.append (List.sublist_append_left _ _) (List.Sublist.refl _))
    have hr' := hr.agree (by rw [wipe_length]) fun j x e => (wipe_out (nv j x e)).symm
    obtain ⟨F', y1, y2, y3⟩ := hfix env H F hr' n2 gH
    refine post (.ref D) H (D :: Fa) F' y1 ?_ ?_ ((hf1.trans hf).sub fun b z => ?_)
    · simp only [RV]; exact ⟨D, accV, Fa, rfl, eD, hl, rfl⟩
    · rw [List.nodup_append]
      have n3 : ((D :: Fa) ++ F).Nodup := by
        rw [List.append_assoc] at hn
        exact (List.nodup_append.mp hn).2.1
      refine ⟨(List.nodup_append.mp n3).1, y2, fun a ha b hb e => ?_⟩
      subst e
      rcases List.mem_append.mp (y3 a hb) with z | z
      · exact (List.nodup_append.mp (List.nodup_append.mp hn).1).2.2 a z a ha rfl
      · exact nd_dis n3 a ha z
    · rcases List.mem_append.mp z with z | z
      · exact List.mem_append_left _ (List.mem_append_right _ z)
      · rcases List.mem_append.mp (y3 b z) with q | q
        · exact List.mem_append_left _ (List.mem_append_left _ q)
        · exact List.mem_append_right _ q
/-- a comprehension over a list that a name holds: it is held back meanwhile -/
def eLCV (i : Nat) (vs : List Nat) (t : TM) (c : BM) (m : EM) : EM := fun env => match env[i]? with
  | some (some (.lst xs)) => if immL xs = true then (lcL vs t c m xs [] (envWipe (env.set i none) vs)).mapE (fun e => e.set i (some (.lst xs))) else .bad
  | _ => .bad
theorem im_eLCV {i : Nat} {g : TG} {tt : TT} {te : TE} {vs : List Nat} {t : TM} {c : BM} {m : EM} (ht : ImTg K S1 g t) (hS : ∀ j ∈ S1, j ∈ vs) (hc : ImT K mg W0 tt c) (hm : ImE K mg W0 te m) :
    ImE K mg W (tLc (iList K (tVar i)) g tt te vs) (eLCV i vs t c m) := by
  intro σ H0 Q env0 F0 hr0 hn0 hp
  unfold eLCV at hp
  split at hp
  · rename_i xs e
    by_cases him : immL xs = true
    · rw [if_pos him] at hp
      obtain ⟨v, Fi, F2, e1, h1, h2, p⟩ := hr0.take e
      simp only [RV] at h1
      obtain ⟨a, vv, F', rfl, ha, hl, rfl⟩ := h1
      have eF' := RVL.imm him hl
      subst eF'
      have n0 : ([a] ++ F2).Nodup := nodup_of_perm p.symm hn0
      refine ⟨_, e1, a, rfl, ⟨vv, SqL.of ha⟩, ?_⟩
      refine im_lcG (Fi := [a]) (F1 := F2) (G := fun H => H a = some (.lst vv) ∧ RVL K H xs vv []) (Y := fun i H x H' => H' = H ∧ vv[i]? = some x) ht hS hc hm ?_ h2 n0 ⟨Kp.refl, fun b z => .inl (p.symm.subset z)⟩ ⟨ha, hl⟩ ?_ ?_ ?_ ?_ hp
      · rw [← hl.length]; exact (walk_list (K := K) (a := a) (xs := vv)).mono (fun H z => SqL.of z.1) fun _ _ _ _ _ _ y => y
      · exact fun H1 H2 z k => ⟨k a _ z.1 (.inl (by simp)), z.2.keep fun b o e m => k b o e (.inr (by simpa using m))⟩
      · intro b z; simp at z; subst z; exact ⟨_, ha, rfl⟩
      · rintro j H3 x H4 z ⟨rfl, y⟩
        exact ⟨fun _ _ e => e, fun q eq => by
          obtain ⟨v, F1, a, b, c⟩ := z.2.get eq
          rw [y] at a; cases a
          have : F1 = [] := List.eq_nil_iff_forall_not_mem.mpr fun b z => by simpa using c b z
          rw [this] at b; exact b⟩
      · intro e2 H F hr hn hG
        obtain ⟨F1, r1, s1⟩ := hr.forget (i := i)
        have hlen : i < e2.length := by
          rw [← hr.len]
          exact (List.getElem?_eq_some_iff.mp e1).1
        have rv : RV K H (.lst xs) (.ref a) [a] := by simp only [RV]; exact ⟨a, vv, [], rfl, hG.1, hG.2, rfl⟩
        obtain ⟨F', r', p'⟩ := r1.put hlen e1 rv
        refine ⟨F', r', nodup_of_perm p' (hn.sublist (List.Sublist.append (List.Sublist.refl _) s1)), fun b hb => ?_⟩
        rcases List.mem_append.mp (p'.subset hb) with z | z
        · exact List.mem_append_left _ z
        · exact List.mem_append_right _ (s1.subset z)
    · rw [if_neg him] at hp; exact hp.elim
  · exact hp.elim
/-- .. a list or a tuple that a name holds -/
def eLCVS (i : Nat) (vs : List Nat) (t : TM) (c : BM) (m : EM) : EM := fun env => match env[i]? with
  | some (some (.tup xs)) => eLC (itT (eVar i)) vs t c m env
  | _ => eLCV i vs t c m env
theorem tLc_or {w1 w2 : TI} {g : TG} {tt : TT} {te : TE} {vs : List Nat} {σ : L2.St} {H : Hp} {Q : VK} (h : tLc w1 g tt te vs σ H Q ∨ tLc w2 g tt te vs σ H Q) : tLc (fun σ H R => w1 σ H R ∨ w2 σ H R) g tt te vs σ H Q := by
  rcases h with h | h
  · exact .inl h
  · exact .inr h
theorem im_eLCVS {i : Nat} {g : TG} {tt : TT} {te : TE} {vs : List Nat} {t : TM} {c : BM} {m : EM} (ht : ImTg K S1 g t) (hS : ∀ j ∈ S1, j ∈ vs) (hc : ImT K mg W0 tt c) (hm : ImE K mg W0 te m) :
    ImE K mg W (tLc (fun σ H R => iList K (tVar i) σ H R ∨ iTup K (tVar i) σ H R) g tt te vs) (eLCVS i vs t c m) := by
  intro σ H0 Q env0 F0 hr0 hn0 hp
  unfold eLCVS at hp
  split at hp
  · exact .inr (im_eLC (im_itT (im_eVar i)) ht hS hc hm σ H0 Q env0 F0 hr0 hn0 hp)
  · exact .inl (im_eLCV ht hS hc hm σ H0 Q env0 F0 hr0 hn0 hp)
def sForVS (i : Nat) (t : TM) (body : SM) : SM := fun env => match env[i]? with
  | some (some (.tup xs)) => sFor (itT (eVar i)) t body env
  | _ => sForV i t body env
theorem im_sForVS {i : Nat} {g : TG} {tb : TS} {t : TM} {body : SM} (ht : ImTg K S1 g t) (hb : ImS K mg W S2 tb body) (hi : i ∉ S1 ++ S2) : ImS K mg W (S1 ++ S2) (tFor (fun σ H R => iList K (tVar i) σ H R ∨ iTup K (tVar i) σ H R) g tb) (sForVS i t body) := by
  intro D σ0 H0 env0 F0 hr0 hn0 hp
  unfold sForVS at hp
  split at hp
  · exact .inr (im_sFor (im_itT (im_eVar i)) ht hb D σ0 H0 env0 F0 hr0 hn0 hp)
  · exact .inl (im_sForV ht hb hi D σ0 H0 env0 F0 hr0 hn0 hp)
end
end PVL

/-! P5: methods that change a name's value, stores by place, calls, defs. -/
namespace PVL
open PySem PySem.Spec L2

section
variable {K : PySem.W.Frag} {mg : Str → Option Value} {W : WX} {S S1 S2 T : List Nat}

/-! ### a method of a built-in type upon a name -/
def tyP (T : String) : PV → Bool
  | .str _ => T == "str"
  | .lst _ => T == "list"
  | .dct _ => T == "dict"
  | _ => false
theorem tyP_ok {H : Hp} {T : String} {p : PV} {v : V} {F : List Addr} (h : RV K H p v F) (e : tyP T p = true) : tyV K T v H := by
  cases p with
  | str x => simp only [RV] at h; obtain ⟨rfl, _⟩ := h; show T = "str"; simpa [tyP] using e
  | lst xs =>
    simp only [RV] at h; obtain ⟨a, vs, F', rfl, h, _⟩ := h
    exact .inl ⟨by simpa [tyP] using e, vs, SqL.of h⟩
  | dct kvs =>
    simp only [RV] at h; obtain ⟨a, ws, F', rfl, h, _⟩ := h
    refine .inr (.inr (.inl ⟨by simpa [tyP] using e, ?_⟩))
    rcases h with ⟨vs, h, _⟩ | ⟨vs, h, _⟩
    · exact .inl ⟨vs, h⟩
    · exact .inr ⟨vs, h⟩
  | _ => simp [tyP] at e
/-- a change in place: the receiver and the owned arguments before, the receiver and the result behind -/
def ChgO (K : PySem.W.Frag) (H : Hp) (F : List Addr) (x : V) (Q : VK) : Option (PV × PV) → Prop
  | some (res, p') => ∀ v H' Fv Fx', RV K H' p' x Fx' → RV K H' res v Fv → (Fv ++ Fx').Nodup → Fm F H (Fv ++ Fx') H' → Q v H'
  | none => False
def SimM (K : PySem.W.Frag) (r : V → List V → Hp → VK → Prop) (f : PV → List PV → Option (PV × PV)) : Prop :=
  ∀ x vs H Q p xs Fx Fa, RV K H p x Fx → RVL K H xs vs Fa → (Fa ++ Fx).Nodup → ChgO K H (Fa ++ Fx) x Q (f p xs) → r x vs H Q
def SimMB (K : PySem.W.Frag) (r : V → List V → Hp → VK → Prop) (f : PV → List PV → Option (PV × PV)) : Prop :=
  ∀ x vs H Q p xs Fx, RV K H p x Fx → Fx.Nodup → RB K H xs vs → ChgO K H Fx x Q (f p xs) → r x vs H Q
/-- the end of a change at a name -/
theorem fin_chg {σ : L2.St} {H H1 : Hp} {F Fa F1 Fx F2 : List Addr} {e : PEnv} {i : Nat} {x : V} {Q : VK} {o : Option (PV × PV)}
    (hf : Fm F H (Fa ++ F1) H1) (n : (Fa ++ F1).Nodup) (p : F1.Perm (Fx ++ F2)) (mt : Mt H1 (Fa ++ Fx)) (r2 : RE K H1 (e.set i none) σ F2) (hσ : σ[i]? = some (some x)) (hl : i < e.length)
    (hp : PostE K mg W σ H F (fun pv env' => ∀ v H' Fv F', RE K H' env' σ F' → RV K H' pv v Fv → (Fv ++ F').Nodup → Fm F H (Fv ++ F') H' → Q v H') (match o with | some (res, p') => .ok res (e.set i (some p')) | none => .bad)) : ChgO K H1 (Fa ++ Fx) x Q o := by
  cases o with
  | none => exact hp
  | some rp =>
    obtain ⟨res, p'⟩ := rp
    simp only [PostE] at hp
    intro v H' Fv Fx' rx rv nn f
    have nP : (Fa ++ (Fx ++ F2)).Nodup := nodup_of_perm (List.Perm.append_left _ p.symm) n
    have n3 : ((Fa ++ Fx) ++ F2).Nodup := by rw [List.append_assoc]; exact nP
    have n4 : (F2 ++ (Fa ++ Fx)).Nodup := nodup_of_perm List.perm_append_comm n3
    have r3 := r2.keep (keep_ap n4 mt f)
    obtain ⟨F', r4, p4⟩ := r3.put hl hσ rx
    have n5 := nd_later n4 r2.mt f nn
    have n6 : (Fv ++ F').Nodup := by
      refine nodup_of_perm (List.Perm.append_left Fv p4) ?_
      rw [← List.append_assoc]
      exact nodup_of_perm List.perm_append_comm n5
    refine hp v H' Fv F' r4 rv n6 (hf.trans ⟨f.kp.mono fun b z => ?_, fun b z => ?_⟩)
    · rcases List.mem_append.mp z with z | z
      · exact List.mem_append_left _ z
      · exact List.mem_append_right _ (p.symm.subset (List.mem_append_left _ z))
    · have go : b ∈ Fv ++ Fx' → b ∈ Fa ++ F1 ∨ H1 b = none := fun z => (f.fr b z).imp (fun z => by
        rcases List.mem_append.mp z with z | z
        · exact List.mem_append_left _ z
        · exact List.mem_append_right _ (p.symm.subset (List.mem_append_left _ z))) id
      rcases List.mem_append.mp z with z | z
      · exact go (List.mem_append_left _ z)
      · rcases List.mem_append.mp (p4.subset z) with z | z
        · exact go (List.mem_append_right _ z)
        · exact .inl (List.mem_append_right _ (p.symm.subset (List.mem_append_right _ z)))
theorem slot_lt {e : PEnv} {i : Nat} {x : Option PV} (h : e[i]? = some x) : i < e.length := (List.getElem?_eq_some_iff.mp h).1
/-- name.m(args), the arguments owned -/
def eMeth (T : String) (i : Nat) (f : PV → List PV → Option (PV × PV)) (a : AM) : EM := fun env => match env[i]? with
  | some (some p0) => if tyP T p0 = true then (a env).bind fun as e => (match e[i]? with
      | some (some p) => (match ownL as with
        | some xs => (match f p xs with | some (res, p') => .ok res (e.set i (some p')) | none => .bad)
        | none => .bad)
      | _ => .bad) else .bad
  | _ => .bad
theorem im_eMeth {T : String} {i : Nat} {r : V → List V → Hp → VK → Prop} {f : PV → List PV → Option (PV × PV)} {ta : TA} {a : AM} (hs : SimM K r f) (ha : ImA K mg W ta a) : ImE K mg W (tBM K T r (tVar i) ta) (eMeth T i f a) := by
  intro σ H Q env F hr hn hp
  unfold eMeth at hp
  split at hp
  · rename_i p0 e0
    by_cases ht : tyP T p0 = true
    · rw [if_pos ht] at hp
      obtain ⟨x, F1, e1, h1⟩ := hr.get e0
      refine ⟨x, e1, tyP_ok h1 ht, ha σ H _ env F hr hn (hp.bind.imp fun as e q vs H1 Fa F1 hr1 hx hn1 hf1 => ?_)⟩
      split at q
      · rename_i p ep
        split at q
        · rename_i xs ex
          have hl := ownL_ok hx ex
          obtain ⟨x', Fx, F2, ex', hx', r2, pm⟩ := hr1.take ep
          rw [e1] at ex'; cases ex'
          refine hs x vs H1 Q p xs Fx Fa hx' hl ?_ (fin_chg hf1 hn1 pm ?_ r2 e1 (slot_lt ep) q)
          · have := nodup_of_perm (List.Perm.append_left Fa pm.symm) hn1
            rw [← List.append_assoc] at this
            exact (List.nodup_append.mp this).1
          · intro b z
            rcases List.mem_append.mp z with z | z
            · exact hx.mt b z
            · exact hx'.mt b z
        · exact q.elim
      · exact q.elim
    · rw [if_neg ht] at hp; exact hp.elim
  · exact hp.elim
def eMeth0 (T : String) (i : Nat) (f : PV → List PV → Option (PV × PV)) : EM := fun env => match env[i]? with
  | some (some p) => if tyP T p = true then (match f p [] with | some (res, p') => .ok res (env.set i (some p')) | none => .bad) else .bad
  | _ => .bad
theorem im_eMeth0 {T : String} {i : Nat} {r : V → List V → Hp → VK → Prop} {f : PV → List PV → Option (PV × PV)} (hs : SimM K r f) : ImE K mg W (tBM0 K T r (tVar i)) (eMeth0 T i f) := by
  intro σ H Q env F hr hn hp
  unfold eMeth0 at hp
  split at hp
  · rename_i p ep
    by_cases ht : tyP T p = true
    · rw [if_pos ht] at hp
      obtain ⟨x, Fx, F2, e1, hx, r2, pm⟩ := hr.take ep
      refine ⟨x, e1, tyP_ok hx ht, hs x [] H Q p [] Fx [] hx (by simp [RVL]) ?_ (fin_chg (F := F) (Fa := []) (F1 := F) Fm.refl (by simpa using hn) pm ?_ r2 e1 (slot_lt ep) hp)⟩
      · have := nodup_of_perm pm.symm hn
        simpa using (List.nodup_append.mp this).1
      · simpa using hx.mt
    · rw [if_neg ht] at hp; exact hp.elim
  · exact hp.elim
/-- name.m(args), the arguments read -/
def eMethB (T : String) (i : Nat) (f : PV → List PV → Option (PV × PV)) (a : AM) : EM := fun env => match env[i]? with
  | some (some p0) => if tyP T p0 = true then (a env).bind fun as e => (match e[i]? with
      | some (some p) => (match seeL e as with
        | some xs => (match f p xs with | some (res, p') => .ok res (e.set i (some p')) | none => .bad)
        | none => .bad)
      | _ => .bad) else .bad
  | _ => .bad
theorem im_eMethB {T : String} {i : Nat} {r : V → List V → Hp → VK → Prop} {f : PV → List PV → Option (PV × PV)} {ta : TA} {a : AM} (hs : SimMB K r f) (ha : ImA K mg W ta a) : ImE K mg W (tBM K T r (tVar i) ta) (eMethB T i f a) := by
  intro σ H Q env F hr hn hp
  unfold eMethB at hp
  split at hp
  · rename_i p0 e0
    by_cases ht : tyP T p0 = true
    · rw [if_pos ht] at hp
      obtain ⟨x, F1, e1, h1⟩ := hr.get e0
      refine ⟨x, e1, tyP_ok h1 ht, ha σ H _ env F hr hn (hp.bind.imp fun as e q vs H1 Fa F1 hr1 hx hn1 hf1 => ?_)⟩
      split at q
      · rename_i p ep
        split at q
        · rename_i xs ex
          have hl := seeL_ok hr1 hx ex
          obtain ⟨x', Fx, F2, ex', hx', r2, pm⟩ := hr1.take ep
          rw [e1] at ex'; cases ex'
          have nx : Fx.Nodup := (List.nodup_append.mp (nodup_of_perm pm.symm (nd_right hn1))).1
          exact hs x vs H1 Q p xs Fx hx' nx hl (fin_chg (Fa := []) (F1 := F1) (by simpa using fm_left hf1) (by simpa using nd_right hn1) pm (by simpa using hx'.mt) r2 e1 (slot_lt ep) q)
        · exact q.elim
      · exact q.elim
    · rw [if_neg ht] at hp; exact hp.elim
  · exact hp.elim

/-! ### stores by place -/
def SetO (K : PySem.W.Frag) (H : Hp) (F : List Addr) (x : V) (Q : Hp → Prop) : Option PV → Prop
  | some p' => ∀ H' Fx', RV K H' p' x Fx' → Fx'.Nodup → Fm F H Fx' H' → Q H'
  | none => False
def SimSet (K : PySem.W.Frag) (r : TSet) (f : PV → PV → PV → Option PV) : Prop :=
  ∀ o k v H Q p pk pv Fo Fk Fv, RV K H p o Fo → RV K H pk k Fk → RV K H pv v Fv → (Fv ++ Fo).Nodup → SetO K H (Fv ++ Fo) o Q (f p pk pv) → r o k v H Q
theorem fin_set {D : Ends} {σ : L2.St} {H H1 : Hp} {F Fa F1 Fx F2 : List Addr} {e : PEnv} {i : Nat} {x : V} {o : Option PV}
    (hf : Fm F H (Fa ++ F1) H1) (n : (Fa ++ F1).Nodup) (p : F1.Perm (Fx ++ F2)) (mt : Mt H1 (Fa ++ Fx)) (r2 : RE K H1 (e.set i none) σ F2) (hσ : σ[i]? = some (some x)) (hl : i < e.length)
    (hp : PostS K mg W S D σ H F (match o with | some p' => .next (e.set i (some p')) | none => .bad)) : SetO K H1 (Fa ++ Fx) x (fun H' => D.nx σ H') o := by
  cases o with
  | none => exact hp
  | some p' =>
    simp only [PostS] at hp
    intro H' Fx' rx nn f
    have nP : (Fa ++ (Fx ++ F2)).Nodup := nodup_of_perm (List.Perm.append_left _ p.symm) n
    have n3 : ((Fa ++ Fx) ++ F2).Nodup := by rw [List.append_assoc]; exact nP
    have n4 : (F2 ++ (Fa ++ Fx)).Nodup := nodup_of_perm List.perm_append_comm n3
    have r3 := r2.keep (keep_ap n4 mt f)
    obtain ⟨F', r4, p4⟩ := r3.put hl hσ rx
    have n5 := nd_later n4 r2.mt f nn
    have n6 : F'.Nodup := nodup_of_perm p4 (nodup_of_perm List.perm_append_comm n5)
    refine hp σ H' F' r4 n6 (hf.trans ⟨f.kp.mono fun b z => ?_, fun b z => ?_⟩) Ag.refl
    · rcases List.mem_append.mp z with z | z
      · exact List.mem_append_left _ z
      · exact List.mem_append_right _ (p.symm.subset (List.mem_append_left _ z))
    · have go : b ∈ Fx' → b ∈ Fa ++ F1 ∨ H1 b = none := fun z => (f.fr b z).imp (fun z => by
        rcases List.mem_append.mp z with z | z
        · exact List.mem_append_left _ z
        · exact List.mem_append_right _ (p.symm.subset (List.mem_append_left _ z))) id
      rcases List.mem_append.mp (p4.subset z) with z | z
      · exact go z
      · exact .inl (List.mem_append_right _ (p.symm.subset (List.mem_append_right _ z)))
/-- name[k] = e -/
def sSetIx (i : Nat) (k : RM) (f : PV → PV → PV → Option PV) (m : EM) : SM := fun env => (m env).toS fun v e => match e[i]? with
  | some (some p) => (match k e with
    | some pk => (match f p pk v with | some p' => .next (e.set i (some p')) | none => .bad)
    | none => .bad)
  | _ => .bad
theorem im_sSetIx {i : Nat} {te tk : TE} {m : EM} {k : RM} {r : TSet} {f : PV → PV → PV → Option PV} (hs : SimSet K r f) (hm : ImE K mg W te m) (hk : ImR K tk k) : ImS K mg W S (tAsg te (gSub (tVar i) tk r)) (sSetIx i k f m) := by
  intro D σ H env F hr hn hp
  refine hm σ H _ env F hr hn (hp.ofE.imp fun pv e q v H1 Fv F1 hr1 hx hn1 hf1 => ?_)
  split at q
  · rename_i p ep
    obtain ⟨x, Fx, F2, ex, hx', r2, pm⟩ := hr1.take ep
    refine ⟨x, ex, hk σ H1 _ e F1 hr1 ?_⟩
    cases ek : k e with
    | none => simp only [ek] at q; exact q.elim
    | some pk =>
      simp only [ek] at q
      intro kv H2 Fk s2 rk
      have mt : Mt H1 (Fv ++ Fx) := fun b z => by
        rcases List.mem_append.mp z with z | z
        · exact hx.mt b z
        · exact hx'.mt b z
      refine hs x kv v H2 _ p pk pv Fx Fk Fv (hx'.sm s2) rk (hx.sm s2) ?_ (fin_set (hf1.trans (Fm.of_sm s2 fun b z => .inl z)) hn1 pm (fun b z => by obtain ⟨o, e, m⟩ := mt b z; exact ⟨o, s2 b o e, m⟩) (r2.sm s2) ex (slot_lt ep) q)
      have := nodup_of_perm (List.Perm.append_left Fv pm.symm) hn1
      rw [← List.append_assoc] at this
      exact (List.nodup_append.mp this).1
  · exact q.elim
/-- name op= e -/
def SimI (K : PySem.W.Frag) (r : TIp) (f : PV → PV → Option PV) : Prop := ∀ x y H Q px py Fx Fy, RV K H px x Fx → RV K H py y Fy → NewO K H Q (f px py) → r x y H Q
def sAug (i : Nat) (f : PV → PV → Option PV) (m : EM) : SM := fun env => match env[i]? with
  | some (some p) => if p.imm = true then (m env).toS fun v e => (match f p v with | some z => if i < e.length then .next (e.set i (some z)) else .bad | none => .bad) else .bad
  | _ => .bad
theorem im_sAug {i : Nat} {te : TE} {m : EM} {r : TIp} {f : PV → PV → Option PV} (hs : SimI K r f) (hm : ImE K mg W te m) : ImS K mg W [i] (tAug i te r) (sAug i f m) := by
  intro D σ H env F hr hn hp
  unfold sAug at hp
  split at hp
  · rename_i p ep
    by_cases hi : p.imm = true
    · rw [if_pos hi] at hp
      obtain ⟨x, Fx, ex, hx⟩ := hr.get ep
      have eF := RV.imm hi hx
      subst eF
      refine ⟨x, ex, hm σ H _ env F hr hn (hp.ofE.imp fun pv e q v H1 Fv F1 hr1 hv hn1 hf1 => ?_)⟩
      have hx1 : RV K H1 p x [] := hx.keep (keep_of (fm_left hf1).kp hr.mt (by simp))
      refine hs x v H1 _ p pv [] Fv hx1 hv ?_
      cases ef : f p pv with
      | none => simp only [ef] at q; exact q.elim
      | some z =>
        simp only [ef] at q
        by_cases hl : i < e.length
        · rw [if_pos hl] at q
          intro w H2 Fz s2 rw' nz fz
          obtain ⟨F', r', G, sG, pG⟩ := (hr1.sm s2).store hl rw'
          have nn : (Fz ++ G).Nodup := by
            rw [List.nodup_append]
            refine ⟨nz, (nd_right hn1).sublist sG, fun a ha b hb e => ?_⟩
            subst e
            obtain ⟨o, e, _⟩ := hr1.mt a (sG.subset hb)
            rw [fz a ha] at e; cases e
          refine q _ H2 F' r' (nodup_of_perm pG nn) ((fm_left hf1).trans (Fm.of_sm s2 fun b z => ?_)) (Ag.set (by simp))
          rcases List.mem_append.mp (pG.subset z) with z | z
          · exact .inr (fz b z)
          · exact .inl (sG.subset z)
        · rw [if_neg hl] at q; exact q.elim
    · rw [if_neg hi] at hp; exact hp.elim
  · exact hp.elim
/-- name[k] op= e -/
def sAugIx (i : Nat) (k : RM) (g : PV → PV → Option PV) (m : EM) (f : PV → PV → Option PV) (st : PV → PV → PV → Option PV) : SM := fun env => match env[i]? with
  | some (some p) => (match k env with
    | some pk => if pk.imm = true then (match immO (g p pk) with
      | some x => (m env).toS fun v e => (match f x v with
        | some z => if z.imm = true then (match e[i]? with
          | some (some p1) => (match st p1 pk z with | some p' => .next (e.set i (some p')) | none => .bad)
          | _ => .bad) else .bad
        | none => .bad)
      | none => .bad) else .bad
    | none => .bad)
  | _ => .bad
theorem im_sAugIx {i : Nat} {te tk : TE} {m : EM} {k : RM} {rg : V → V → Hp → VK → Prop} {g : PV → PV → Option PV} {ri : TIp} {f : PV → PV → Option PV} {rs : TSet} {st : PV → PV → PV → Option PV}
    (hg : SimB2 K rg g) (hi : SimI K ri f) (hs : SimSet K rs st) (hk : ImR K tk k) (hm : ImE K mg W te m) : ImS K mg W S (tAugS (tVar i) tk te rg ri rs) (sAugIx i k g m f st) := by
  intro D σ H env F hr hn hp
  unfold sAugIx at hp
  split at hp
  · rename_i p ep
    obtain ⟨o, Fo, eo, ho⟩ := hr.get ep
    refine ⟨o, eo, hk σ H _ env F hr ?_⟩
    cases ek : k env with
    | none => simp only [ek] at hp; exact hp.elim
    | some pk =>
      simp only [ek] at hp
      by_cases hik : pk.imm = true
      · simp only [hik, if_true] at hp
        intro kv H1 Fk s1 rk
        have eF := RV.imm hik rk
        subst eF
        refine hg o kv H1 _ p pk Fo [] (ho.sm s1) rk ?_
        cases eg : g p pk with
        | none => simp only [eg, immO] at hp; exact hp.elim
        | some x =>
          simp only [eg, immO] at hp
          by_cases hix : x.imm = true
          · simp only [hix, if_true] at hp
            intro xv H2 Fx s2 rx
            have eF := RV.imm hix rx
            subst eF
            have f12 : Fm F H F H2 := Fm.of_sm (s1.trans s2) fun b z => .inl z
            have hr2 := hr.sm (s1.trans s2)
            refine hm σ H2 _ env F hr2 hn ((hp.ofE2 f12 Ag.refl).imp fun pv e q v H3 Fv F3 hr3 hv hn3 hf3 => ?_)
            have kk := keep_of (F := []) (fm_left hf3).kp hr2.mt (by simp)
            have rx3 : RV K H3 x xv [] := rx.keep kk
            have rk3 : RV K H3 pk kv [] := (rk.sm s2).keep kk
            refine hi xv v H3 _ x pv [] Fv rx3 hv ?_
            cases ef : f x pv with
            | none => simp only [ef] at q; exact q.elim
            | some z =>
              simp only [ef] at q
              by_cases hz : z.imm = true
              · simp only [hz, if_true] at q
                split at q
                · rename_i p1 ep1
                  intro zv H4 Fz s4 rz nz fz
                  have eF := RV.imm hz rz
                  subst eF
                  obtain ⟨o', Fx, F2, eo', ho', r2, pm⟩ := hr3.take ep1
                  rw [eo] at eo'; cases eo'
                  have nn := nd_right hn3
                  refine hs o kv zv H4 _ p1 pk z Fx [] [] (ho'.sm s4) (rk3.sm s4) rz ?_ (fin_set (Fa := []) (F1 := F3) (by simpa using (f12.trans (fm_left hf3)).trans (Fm.of_sm s4 fun b z => .inl z)) (by simpa using nn) pm (by
                    intro b z
                    obtain ⟨o, e, m⟩ := ho'.mt b (by simpa using z)
                    exact ⟨o, s4 b o e, m⟩) (r2.sm s4) eo (slot_lt ep1) q)
                  simpa using (List.nodup_append.mp (nodup_of_perm pm.symm nn)).1
                · exact q.elim
              · simp only [hz] at q; exact q.elim
          · simp only [hix] at hp; exact hp.elim
      · simp only [hik] at hp; exact hp.elim
  · exact hp.elim

/-! ### calls -/
inductive FO where
  | ok (x : PV) (ps : List (Option PV))
  | exc (x : PX) (ps : List (Option PV))
  | bad
abbrev FM := List PV → FO
def PostF (K : PySem.W.Frag) (mg : Str → Option Value) (vs : List V) (H : Hp) (F : List Addr) (Q : VK) (E : XK) : FO → Prop
  | .ok x ps => ∀ v H' Fv Fp, RV K H' x v Fv → RE K H' ps (vs.map some) Fp → (Fv ++ Fp).Nodup → Fm F H (Fv ++ Fp) H' → Q v H'
  | .exc x ps => ∀ cls d H' Fp, RE K H' ps (vs.map some) Fp → Fp.Nodup → Fm F H Fp H' → RX K mg x cls d H' → E cls d H'
  | .bad => False
/-- the promise of a def that does as a pure function says -/
def spF (K : PySem.W.Frag) (mg : Str → Option Value) (n : Nat) (f : FM) : Sp := fun vs H Q E => ∃ ps F, ps.length = n ∧ RVL K H ps vs F ∧ F.Nodup ∧ PostF K mg vs H F Q E (f ps)
def takeA : List Arg → PEnv → Option (List PV × PEnv)
  | [], e => some ([], e)
  | .own x :: r, e => (takeA r e).map fun z => (x :: z.1, z.2)
  | .ref i :: r, e => match e[i]? with
    | some (some p) => if p.imm = true then (takeA r e).map fun z => (p :: z.1, z.2) else (takeA r (e.set i none)).map fun z => (p :: z.1, z.2)
    | _ => none
def putA : List Arg → List (Option PV) → PEnv → PEnv
  | .own _ :: r, _ :: ps, e => putA r ps e
  | .ref i :: r, some p :: ps, e => putA r ps (e.set i (some p))
  | .ref _ :: r, none :: ps, e => putA r ps e
  | _, _, e => e
theorem takeA_ok {H : Hp} {σ : L2.St} : ∀ {as : List Arg} {e : PEnv} {vs : List V} {Fv F : List Addr} {ps : List PV} {e1 : PEnv}, RGs K H σ as vs Fv → RE K H e σ F → takeA as e = some (ps, e1) →
    e1.length = e.length ∧ ∃ Fa Fr, RVL K H ps vs Fa ∧ RE K H e1 σ Fr ∧ (Fv ++ F).Perm (Fa ++ Fr)
  | [], e, vs, Fv, F, ps, e1, h, hr, ht => by
    simp only [takeA, Option.some.injEq, Prod.mk.injEq] at ht
    obtain ⟨rfl, rfl⟩ := ht
    simp only [RGs] at h
    obtain ⟨rfl, rfl⟩ := h
    exact ⟨rfl, [], F, by simp [RVL], hr, by simp⟩
  | .own x :: r, e, vs, Fv, F, ps, e1, h, hr, ht => by
    simp only [takeA, Option.map_eq_some_iff] at ht
    obtain ⟨⟨ps', e'⟩, ht, eq⟩ := ht
    cases eq
    simp only [RGs, RG] at h
    obtain ⟨v, vr, F1, F2, rfl, h1, h2, rfl⟩ := h
    obtain ⟨hl, Fa, Fr, a, b, c⟩ := takeA_ok h2 hr ht
    refine ⟨hl, F1 ++ Fa, Fr, RVL.cons h1 a, b, ?_⟩
    rw [List.append_assoc, List.append_assoc]
    exact List.Perm.append_left _ c
  | .ref i :: r, e, vs, Fv, F, ps, e1, h, hr, ht => by
    simp only [RGs, RG] at h
    obtain ⟨v, vr, F1, F2, rfl, ⟨hσ, rfl⟩, h2, rfl⟩ := h
    simp only [takeA] at ht
    split at ht
    · rename_i p ep
      by_cases hi : p.imm = true
      · rw [if_pos hi] at ht
        simp only [Option.map_eq_some_iff] at ht
        obtain ⟨⟨ps', e'⟩, ht, eq⟩ := ht
        cases eq
        obtain ⟨v', G, ev, hv⟩ := hr.get ep
        rw [hσ] at ev; cases ev
        have eG := RV.imm hi hv
        subst eG
        obtain ⟨hl, Fa, Fr, a, b, c⟩ := takeA_ok h2 hr ht
        exact ⟨hl, [] ++ Fa, Fr, RVL.cons hv a, b, by simpa using c⟩
      · rw [if_neg hi] at ht
        simp only [Option.map_eq_some_iff] at ht
        obtain ⟨⟨ps', e'⟩, ht, eq⟩ := ht
        cases eq
        obtain ⟨v', G1, G2, ev, hv, hr2, pm⟩ := hr.take ep
        rw [hσ] at ev; cases ev
        obtain ⟨hl, Fa, Fr, a, b, c⟩ := takeA_ok h2 hr2 ht
        refine ⟨by simpa using hl, G1 ++ Fa, Fr, RVL.cons hv a, b, ?_⟩
        rw [List.append_assoc]
        refine (List.Perm.append_left _ pm).trans ?_
        rw [← List.append_assoc]
        refine (List.Perm.append_right G2 List.perm_append_comm).trans ?_
        rw [List.append_assoc]
        exact List.Perm.append_left _ c
    · cases ht
theorem putA_ok {H : Hp} {σ : L2.St} : ∀ {as : List Arg} {vs : List V} {Fg : List Addr} {ps : List (Option PV)} {e : PEnv} {Fp F : List Addr} {H0 : Hp}, RGs K H0 σ as vs Fg → RE K H ps (vs.map some) Fp → RE K H e σ F → (Fp ++ F).Nodup →
    ∃ F', RE K H (putA as ps e) σ F' ∧ F'.Nodup ∧ ∀ b ∈ F', b ∈ Fp ++ F
  | [], vs, Fg, ps, e, Fp, F, H0, hg, hp, hr, n => by
    cases ps <;> exact ⟨F, by simpa [putA] using hr, nd_right n, fun b z => List.mem_append_right _ z⟩
  | .own x :: r, vs, Fg, ps, e, Fp, F, H0, hg, hp, hr, n => by
    simp only [RGs, RG] at hg
    obtain ⟨v, vr, F1, F2, rfl, _, hg, _⟩ := hg
    cases ps with
    | nil => exact ⟨F, by simpa [putA] using hr, nd_right n, fun b z => List.mem_append_right _ z⟩
    | cons p ps =>
      simp only [putA]
      cases p with
      | none =>
        simp only [List.map_cons, RE] at hp
        obtain ⟨y, s, eq, hp⟩ := hp
        cases eq
        exact putA_ok hg hp hr n
      | some p =>
        simp only [List.map_cons, RE] at hp
        obtain ⟨y, s, G1, G2, eq, _, hp, rfl⟩ := hp
        cases eq
        rw [List.append_assoc] at n
        obtain ⟨F', a, b, c⟩ := putA_ok hg hp hr (List.nodup_append.mp n).2.1
        exact ⟨F', a, b, fun b z => by rw [List.append_assoc]; exact List.mem_append_right _ (c b z)⟩
  | .ref i :: r, vs, Fg, ps, e, Fp, F, H0, hg, hp, hr, n => by
    simp only [RGs, RG] at hg
    obtain ⟨v, vr, F1, F2, rfl, ⟨hσ, _⟩, hg, _⟩ := hg
    cases ps with
    | nil => exact ⟨F, by simpa [putA] using hr, nd_right n, fun b z => List.mem_append_right _ z⟩
    | cons p ps =>
      cases p with
      | none =>
        simp only [putA]
        simp only [List.map_cons, RE] at hp
        obtain ⟨y, s, eq, hp⟩ := hp
        cases eq
        exact putA_ok hg hp hr n
      | some p =>
        simp only [putA]
        simp only [List.map_cons, RE] at hp
        obtain ⟨y, s, G1, G2, eq, hv, hp, rfl⟩ := hp
        cases eq
        obtain ⟨F0, r0, s0⟩ := hr.forget (i := i)
        have hl : i < e.length := by rw [← hr.len]; exact (List.getElem?_eq_some_iff.mp hσ).1
        obtain ⟨F3, r3, p3⟩ := r0.put hl hσ hv
        have n2 : (G2 ++ (G1 ++ F)).Nodup := by
          refine nodup_of_perm ?_ n
          rw [← List.append_assoc]
          exact List.Perm.append_right _ List.perm_append_comm
        have n3 : (G2 ++ F3).Nodup := nodup_of_perm (List.Perm.append_left _ p3) (n2.sublist (List.Sublist.append (List.Sublist.refl _) (List.Sublist.append (List.Sublist.refl _) s0)))
        obtain ⟨F', a, b, c⟩ := putA_ok hg hp r3 n3
        refine ⟨F', a, b, fun b z => ?_⟩
        rcases List.mem_append.mp (c b z) with z | z
        · exact List.mem_append_left _ (List.mem_append_right _ z)
        · rcases List.mem_append.mp (p3.subset z) with z | z
          · exact List.mem_append_left _ (List.mem_append_left _ z)
          · exact List.mem_append_right _ (s0.subset z)
def eCall (f : FM) (a : AM) : EM := fun env => (a env).bind fun as e => match takeA as e with
  | some (ps, e1) => (match f ps with
    | .ok x qs => .ok x (putA as qs e1)
    | .exc x qs => .exc x (putA as qs e1)
    | .bad => .bad)
  | none => .bad
theorem im_eCall {n : Nat} {f : FM} {ta : TA} {a : AM} (ha : ImA K mg W ta a) (hn' : ∀ env as e, a env = .ok as e → as.length = n) : ImE K mg W (tCallS (spF K mg n f) (WE W) ta) (eCall f a) := by
  intro σ H Q env F hr hn hp
  have hlen := hn' env
  unfold eCall at hp
  cases ea : a env with
  | bad => rw [ea] at hp; exact hp.elim
  | exc x e => exact ha σ H _ env F hr hn (by rw [ea] at hp ⊢; exact hp)
  | ok as e =>
    refine ha σ H _ env F hr hn ?_
    rw [ea] at hp ⊢
    simp only [EO.bind_ok] at hp
    have hl : as.length = n := hlen as e ea
    intro vs H1 Fv F1 hr1 hx hn1 hf1
    cases et : takeA as e with
    | none => rw [et] at hp; exact hp.elim
    | some z =>
      obtain ⟨ps, e1⟩ := z
      rw [et] at hp
      simp only at hp
      obtain ⟨hl1, Fa, Fr, hv, hr2, pm⟩ := takeA_ok hx hr1 et
      have nA : (Fa ++ Fr).Nodup := nodup_of_perm pm.symm hn1
      have nB : (Fr ++ Fa).Nodup := nodup_of_perm List.perm_append_comm nA
      have hf2 : Fm F H (Fa ++ Fr) H1 := hf1.sub fun b z => pm.symm.subset z
      have lps : ps.length = n := by
        rw [← hv.length, ← hl]
        clear hp et hr2 hv pm nA nB hf2 hl ea hl1
        induction as generalizing vs Fv with
        | nil => simp only [RGs] at hx; rw [hx.1]; rfl
        | cons x r ih =>
          simp only [RGs] at hx
          obtain ⟨v, vr, G1, G2, rfl, _, hx, rfl⟩ := hx
          have := ih vr G2 hx (by rw [List.append_assoc] at hn1; exact (List.nodup_append.mp hn1).2.1) (hf1.sub fun b z => by rw [List.append_assoc]; exact List.mem_append_right _ z)
          simp [this]
      refine ⟨ps, Fa, lps, hv, (List.nodup_append.mp nA).1, ?_⟩
      cases ef : f ps with
      | bad => rw [ef] at hp; exact hp.elim
      | ok x qs =>
        rw [ef] at hp
        intro v H2 Fw Fp rx rp np fm
        have hr3 := hr2.keep (keep_ap nB hv.mt fm)
        have n5 := nd_later nB hr2.mt fm np
        have n6 : ((Fw ++ Fp) ++ Fr).Nodup := nodup_of_perm List.perm_append_comm n5
        rw [List.append_assoc] at n6
        obtain ⟨F', a, b, c⟩ := putA_ok hx rp hr3 (List.nodup_append.mp n6).2.1
        refine hp v H2 Fw F' a rx ?_ (hf2.trans ⟨fm.kp.mono fun b z => List.mem_append_left _ z, fun b z => ?_⟩)
        · rw [List.nodup_append]
          refine ⟨(List.nodup_append.mp n6).1, b, fun q hq w hw e => ?_⟩
          subst e
          exact (List.nodup_append.mp n6).2.2 q hq q (c q hw) rfl
        · have go : b ∈ Fw ++ Fp → b ∈ Fa ++ Fr ∨ H1 b = none := fun z => (fm.fr b z).imp (fun z => List.mem_append_left _ z) id
          rcases List.mem_append.mp z with z | z
          · exact go (List.mem_append_left _ z)
          · rcases List.mem_append.mp (c b z) with z | z
            · exact go (List.mem_append_right _ z)
            · exact .inl (List.mem_append_right _ z)
      | exc x qs =>
        rw [ef] at hp
        intro cls d H2 Fp rp np fm rx
        have hr3 := hr2.keep (keep_ap nB hv.mt fm)
        have n5 := nd_later nB hr2.mt fm np
        have n6 : (Fp ++ Fr).Nodup := nodup_of_perm List.perm_append_comm n5
        obtain ⟨F', a, b, c⟩ := putA_ok hx rp hr3 n6
        refine hp cls d H2 F' a b (hf2.trans ⟨fm.kp.mono fun b z => List.mem_append_left _ z, fun b z => ?_⟩) rx
        rcases List.mem_append.mp (c b z) with z | z
        · exact (fm.fr b z).imp (fun z => List.mem_append_left _ z) id
        · exact .inl (List.mem_append_right _ z)
end
end PVL

/-! P6: defs as pure functions; the joint judgements (rule and pure function at once). -/
namespace PVL
open PySem PySem.Spec L2

/-! ### defs -/
def finals : List PV → PEnv → List (Option PV)
  | [], _ => []
  | p :: r, x :: e => (if p.imm = true then some p else x) :: finals r e
  | _ :: r, [] => none :: finals r []
/-- a def: so many parameters, so many names, the parameters that are stored, the body -/
def fnM (n m : Nat) (asg : List Nat) (body : SM) : FM := fun ps => if asg.all (fun j => match ps[j]? with | some p => p.imm | none => true) = true then
    (match body (ps.map some ++ List.replicate (m - n) none) with
    | .next e => .ok .non (finals ps e)
    | .ret x e => .ok x (finals ps e)
    | .exc x e => .exc x (finals ps e)
    | _ => .bad) else .bad
section
variable {K : PySem.W.Frag} {mg : Str → Option Value}
theorem start_ok {H : Hp} {N : Nat} : ∀ {ps : List PV} {vs : List V} {F : List Addr}, RVL K H ps vs F → RE K H (ps.map some ++ List.replicate N none) (vs.map some ++ List.replicate N none) F
  | [], vs, F, h => by
    simp only [RVL] at h
    obtain ⟨rfl, rfl⟩ := h
    simp only [List.map_nil, List.nil_append]
    induction N with
    | zero => simp [RE]
    | succ n ih => simp only [List.replicate_succ, RE]; exact ⟨_, _, rfl, ih⟩
  | p :: ps, vs, F, h => by
    simp only [RVL] at h
    obtain ⟨v, vr, F1, F2, rfl, h1, h2, rfl⟩ := h
    simp only [List.map_cons, List.cons_append, RE]
    exact ⟨v, _, F1, F2, rfl, h1, start_ok h2, rfl⟩
theorem finals_ok {H H' : Hp} {X : L2.St} (k : ∀ b o, H b = some o → mutO o = false → H' b = some o) : ∀ {ps : List PV} {vs : List V} {F0 : List Addr} {e : PEnv} {σ : L2.St} {F : List Addr}, RVL K H ps vs F0 → RE K H' e σ F →
    (∀ (j : Nat) (p : PV), ps[j]? = some p → p.imm = false → σ[j]? = (vs.map some)[j]?) → ∃ F', RE K H' (finals ps e) (vs.map some) F' ∧ F'.Sublist F
  | [], vs, F0, e, σ, F, h, hr, _ => by
    simp only [RVL] at h
    obtain ⟨rfl, rfl⟩ := h
    exact ⟨[], by simp [finals, RE], List.nil_sublist _⟩
  | p :: ps, vs, F0, [], σ, F, h, hr, q => by
    simp only [RVL] at h
    obtain ⟨v, vr, F1, F2, rfl, h1, h2, rfl⟩ := h
    simp only [RE] at hr
    obtain ⟨rfl, rfl⟩ := hr
    obtain ⟨F', a, b⟩ := finals_ok (X := X) k (e := []) (σ := []) (F := []) h2 (by simp [RE]) fun j p' e1 e2 => by simpa using q (j + 1) p' (by simpa using e1) e2
    exact ⟨F', by simp only [finals, List.map_cons, RE]; exact ⟨_, _, rfl, a⟩, b⟩
  | p :: ps, vs, F0, x :: e, σ, F, h, hr, q => by
    simp only [RVL] at h
    obtain ⟨v, vr, F1, F2, rfl, h1, h2, rfl⟩ := h
    have q' : ∀ {y : Option V} {s : L2.St}, σ = y :: s → ∀ (j : Nat) (p' : PV), ps[j]? = some p' → p'.imm = false → s[j]? = (vr.map some)[j]? := fun eq j p' e1 e2 => by
      subst eq
      simpa using q (j + 1) p' (by simpa using e1) e2
    by_cases hi : p.imm = true
    · have eF := RV.imm hi h1
      subst eF
      have h1' : RV K H' p v [] := h1.keep fun b o e m => k b o e (by simpa using m)
      simp only [finals, if_pos hi, List.map_cons, RE]
      cases x with
      | none =>
        simp only [RE] at hr
        obtain ⟨y, s, rfl, hr⟩ := hr
        obtain ⟨F', a, b⟩ := finals_ok (X := X) k h2 hr (q' rfl)
        exact ⟨F', ⟨v, _, [], F', rfl, h1', a, rfl⟩, b⟩
      | some x =>
        simp only [RE] at hr
        obtain ⟨y, s, G1, G2, rfl, _, hr, rfl⟩ := hr
        obtain ⟨F', a, b⟩ := finals_ok (X := X) k h2 hr (q' rfl)
        exact ⟨F', ⟨v, _, [], F', rfl, h1', a, rfl⟩, b.trans (List.sublist_append_right _ _)⟩
    · simp only [finals, if_neg hi, List.map_cons]
      cases x with
      | none =>
        simp only [RE] at hr ⊢
        obtain ⟨y, s, rfl, hr⟩ := hr
        obtain ⟨F', a, b⟩ := finals_ok (X := X) k h2 hr (q' rfl)
        exact ⟨F', ⟨_, _, rfl, a⟩, b⟩
      | some x =>
        simp only [RE] at hr ⊢
        obtain ⟨y, s, G1, G2, rfl, hx, hr, rfl⟩ := hr
        have e0 := q 0 p rfl (by simpa using hi)
        simp at e0
        subst e0
        obtain ⟨F', a, b⟩ := finals_ok (X := X) k h2 hr (q' rfl)
        exact ⟨G1 ++ F', ⟨y, _, G1, F', rfl, hx, a, rfl⟩, List.Sublist.append (List.Sublist.refl _) b⟩
theorem im_fn {n m : Nat} {asg S : List Nat} {t : TS} {body : SM} {E : XK} {N : List Str} (hN : N.length = m) (hS : ∀ j ∈ S, j < n → j ∈ asg) (hb : ImS K mg (fun cls d _ H => E cls d H) S t body) {vs : List V} {H : Hp} {Q : VK}
    (h : spF K mg n (fnM n m asg body) vs H Q E) : t { nx := fun _ H' => Q .non H', rt := Q } (L2.start N vs) H := by
  obtain ⟨ps, F, hl, hv, hn, hp⟩ := h
  unfold fnM at hp
  by_cases ha : asg.all (fun j => match ps[j]? with | some p => p.imm | none => true) = true
  · simp only [ha, if_true] at hp
    have lv : vs.length = n := by rw [hv.length, hl]
    have e0 : L2.start N vs = vs.map some ++ List.replicate (m - n) none := by unfold L2.start; rw [hN, lv]
    rw [e0]
    have fin : ∀ {e : PEnv} {σ' : L2.St} {H' : Hp} {F' : List Addr}, RE K H' e σ' F' → Fm F H F' H' → Ag S (vs.map some ++ List.replicate (m - n) none) σ' → ∃ Fp, RE K H' (finals ps e) (vs.map some) Fp ∧ Fp.Sublist F' := by
      intro e σ' H' F' hr f ag
      refine finals_ok (X := []) (fun b o e m => f.kp b o (fun z => ?_) e) hv hr fun j p e1 e2 => ?_
      · obtain ⟨o', e', m'⟩ := hv.mt b z
        rw [e] at e'; cases e'; rw [m] at m'; cases m'
      · have hj : j < n := by rw [← hl]; exact (List.getElem?_eq_some_iff.mp e1).1
        rw [ag.at_ j fun z => ?_]
        · rw [List.getElem?_append_left (by rw [List.length_map, lv]; exact hj)]
        · have := List.all_eq_true.mp ha j (hS j z hj)
          rw [e1] at this
          simp only at this
          rw [this] at e2; cases e2
    refine hb _ _ H _ F (start_ok hv) hn ?_
    cases eb : body (ps.map some ++ List.replicate (m - n) none) with
    | next e =>
      simp only [eb] at hp
      intro σ' H' F' x1 x2 x3 x4
      obtain ⟨Fp, a, b⟩ := fin x1 x3 x4
      exact hp .non H' [] Fp (by simp [RV]) a (by simpa using x2.sublist b) (x3.sub fun z y => b.subset (by simpa using y))
    | ret x e =>
      simp only [eb] at hp
      intro v σ' H' Fv F' x1 x2 x3 x4 x5
      obtain ⟨Fp, a, b⟩ := fin x1 (fm_left x4) x5
      exact hp v H' Fv Fp x2 a (x3.sublist (List.Sublist.append (List.Sublist.refl _) b)) (x4.sub fun z y => (List.Sublist.append (List.Sublist.refl Fv) b).subset y)
    | brk e => simp only [eb] at hp; exact hp.elim
    | cont e => simp only [eb] at hp; exact hp.elim
    | exc x e =>
      simp only [eb] at hp
      intro cls d σ' H' F' x1 x2 x3 x4 x5
      obtain ⟨Fp, a, b⟩ := fin x1 x3 x4
      exact hp cls d H' Fp a (x2.sublist b) (x3.sub fun z y => b.subset y) x5
    | bad => simp only [eb] at hp; exact hp.elim
  · simp only [ha] at hp; exact hp.elim
theorem spF_len {n : Nat} {f : FM} {ps : List Str} (h : ps.length = n) : ∀ vs H Q E, spF K mg n f vs H Q E → vs.length = ps.length := fun vs H Q E ⟨qs, F, hl, hv, _⟩ => by rw [hv.length, hl, h]
end

/-! ### rule and pure function at once -/
structure JE (X : Cx) (W : WX) (e : Expr) (t : TE) (m : EM) : Prop where
  pe : PE X e t
  im : ImE X.K X.mg W t m
structure JG (X : Cx) (W : WX) (e : Expr) (t : TE) (m : GM) : Prop where
  pe : PE X e t
  im : ImG X.K X.mg W t m
structure JR (X : Cx) (e : Expr) (t : TE) (m : RM) : Prop where
  pe : PE X e t
  im : ImR X.K t m
structure JA (X : Cx) (W : WX) (es : List Expr) (t : TA) (m : AM) : Prop where
  pa : PA X es t
  im : ImA X.K X.mg W t m
  len : ∀ env as e, m env = .ok as e → as.length = es.length
structure JT (X : Cx) (W : WX) (e : Expr) (t : TT) (m : BM) : Prop where
  pt : PT X e t
  im : ImT X.K X.mg W t m
structure JW (X : Cx) (W : WX) (e : Expr) (t : TT) (m : BM) : Prop where
  pw : PW X e t
  im : ImT X.K X.mg W t m
structure JS (X : Cx) (W : WX) (S : List Nat) (st : Stmt) (t : TS) (m : SM) : Prop where
  ps : PS X st t
  im : ImS X.K X.mg W S t m
structure JSs (X : Cx) (W : WX) (S : List Nat) (st : List Stmt) (t : TS) (m : SM) : Prop where
  ps : PSs X st t
  im : ImS X.K X.mg W S t m
structure JP (X : Cx) (S : List Nat) (e : Expr) (t : TG) (m : TM) : Prop where
  pg : PG X e t
  im : ImTg X.K S t m
structure JPs (X : Cx) (S : List Nat) (es : List Expr) (t : TGs) (m : List PV → PEnv → Option PEnv) : Prop where
  pg : PGs X es t
  im : ImTgs X.K S t m
structure JI (X : Cx) (W : WX) (tg e : Expr) (t : TI) (m : PEnv → EO (List PV)) : Prop where
  pi : PI X tg e t
  im : ImI X.K X.mg W t m

section
variable {X : Cx} {W : WX} {S S1 S2 : List Nat} {e a b c : Expr} {es : List Expr} {te ta tb : TE} {tA : TA} {m ma mb : EM} {ga gb : GM} {ra rb : RM} {am : AM} {pos : Pos}
/-! expressions -/
theorem j_int {i j} : JE X W (.Constant (.int i) j pos) (tC (.int i)) (eC (.int i)) := ⟨pe_int, im_eC⟩
theorem j_str {x j} : JE X W (.Constant (.str x) j pos) (tC (.str x)) (eC (.str x)) := ⟨pe_str, im_eC⟩
theorem j_bl {x j} : JE X W (.Constant (.bool x) j pos) (tC (.bl x)) (eC (.bl x)) := ⟨pe_bl, im_eC⟩
theorem j_non {j} : JE X W (.Constant .none j pos) (tC .non) (eC .non) := ⟨pe_non, im_eC⟩
theorem jr_int {i j} : JR X (.Constant (.int i) j pos) (tC (.int i)) (rC (.int i)) := ⟨pe_int, im_rC⟩
theorem jr_str {x j} : JR X (.Constant (.str x) j pos) (tC (.str x)) (rC (.str x)) := ⟨pe_str, im_rC⟩
theorem jr_bl {x j} : JR X (.Constant (.bool x) j pos) (tC (.bl x)) (rC (.bl x)) := ⟨pe_bl, im_rC⟩
theorem jr_non {j} : JR X (.Constant .none j pos) (tC .non) (rC .non) := ⟨pe_non, im_rC⟩
theorem j_var (i : Nat) {x : Str} (hN : X.N[i]? = some x := by rfl) (hv : Vis X.env.scope x := by first | exact Or.inl rfl | exact Or.inr (Or.inl rfl) | exact Or.inr (Or.inr rfl)) (hd : (x == ("__debug__" : Str)) = false := by decide)
    (hcd : (x == ("__classdict__" : Str)) = false := by decide) : JE X W (.Name x pos) (tVar i) (eVar i) := ⟨pe_var hN hv hd hcd, im_eVar i⟩
theorem jr_var (i : Nat) {x : Str} (hN : X.N[i]? = some x := by rfl) (hv : Vis X.env.scope x := by first | exact Or.inl rfl | exact Or.inr (Or.inl rfl) | exact Or.inr (Or.inr rfl)) (hd : (x == ("__debug__" : Str)) = false := by decide)
    (hcd : (x == ("__classdict__" : Str)) = false := by decide) : JR X (.Name x pos) (tVar i) (rVar i) := ⟨pe_var hN hv hd hcd, im_rVar i⟩
theorem jg_var (i : Nat) {x : Str} (hN : X.N[i]? = some x := by rfl) (hv : Vis X.env.scope x := by first | exact Or.inl rfl | exact Or.inr (Or.inl rfl) | exact Or.inr (Or.inr rfl)) (hd : (x == ("__debug__" : Str)) = false := by decide)
    (hcd : (x == ("__classdict__" : Str)) = false := by decide) : JG X W (.Name x pos) (tVar i) (gRef i) := ⟨pe_var hN hv hd hcd, im_gRef i⟩
theorem jg (h : JE X W e te m) : JG X W e te (gOwn m) := ⟨h.pe, im_gOwn h.im⟩
theorem j_r (h : JR X e te ra) : JE X W e te (eR ra) := ⟨h.pe, im_eR h.im⟩
theorem ja_nil : JA X W [] tNil aNil := ⟨pa_nil, im_aNil, fun env as e h => by simp only [aNil, EO.ok.injEq] at h; rw [← h.1]; rfl⟩
theorem ja_cons (h : JG X W e te ga) (r : JA X W es tA am) (hs : starEach (e :: es) X.env = (false, eval e X.env) :: starEach es X.env := by rfl) : JA X W (e :: es) (tCons te tA) (aCons ga am) := by
  refine ⟨pa_cons h.pe r.pa hs, im_aCons h.im r.im, fun env as e1 h1 => ?_⟩
  unfold aCons at h1
  cases eg : ga env with
  | bad => rw [eg] at h1; cases h1
  | exc x e2 => rw [eg] at h1; cases h1
  | ok x e2 =>
    rw [eg] at h1
    simp only [EO.bind_ok] at h1
    cases ea : am e2 with
    | bad => rw [ea] at h1; cases h1
    | exc x e3 => rw [ea] at h1; cases h1
    | ok r3 e3 =>
      rw [ea] at h1
      simp only [EO.bind_ok, EO.ok.injEq] at h1
      rw [← h1.1, List.length_cons, List.length_cons, r.len e2 r3 e3 ea]
theorem j_tup {x1} (h : JA X W es tA am) : JE X W (.Tuple es x1 pos) (tTup tA) (eTup am) := ⟨pe_tup h.pa, im_eTup h.im⟩
theorem j_lst (h : JA X W es tA am) : JE X W (.List es pos) (tLst tA) (eLst am) := ⟨pe_lst h.pa, im_eLst h.im⟩
theorem j_op {op : Operator} {r : R2} {f : PV → PV → Option PV} (hs : SimR2 X.K r f) (ho : OpR X (binaryOp op) r) (ha : JG X W a ta ga) (hb : JG X W b tb gb) : JE X W (.BinOp a op b pos) (tOp r ta tb) (eOp f ga gb) := ⟨pe_op ho ha.pe hb.pe, im_op hs ha.im hb.im⟩
theorem jr_op {op : Operator} {r : R2} {f : PV → PV → Option PV} (hs : SimR2 X.K r f) (ho : OpR X (binaryOp op) r) (ha : JR X a ta ra) (hb : JR X b tb rb) : JR X (.BinOp a op b pos) (tOp r ta tb) (rOp f ra rb) := ⟨pe_op ho ha.pe hb.pe, im_rOp hs.b ha.im hb.im⟩
theorem j_un {op : UnaryOp} {r : V → Hp → VK → Prop} {f : PV → Option PV} (hs : SimU X.K r f) (ho : UnR X (unaryOp op) r) (ha : JG X W a ta ga) : JE X W (.UnaryOp op a pos) (tUn r ta) (eUn f ga) := ⟨pe_un ho ha.pe, im_un hs ha.im⟩
theorem jr_un {op : UnaryOp} {r : V → Hp → VK → Prop} {f : PV → Option PV} (hs : SimU X.K r f) (ho : UnR X (unaryOp op) r) (ha : JR X a ta ra) : JR X (.UnaryOp op a pos) (tUn r ta) (rUn f ra) := ⟨pe_un ho ha.pe, im_rUn hs ha.im⟩
theorem j_cmp {op : CmpOp} {r : R2} {f : PV → PV → Option PV} (hs : SimR2 X.K r f) (ho : OpR X (compareOp op) r) (hm : behindInMarks op b = false) (ha : JG X W a ta ga) (hb : JG X W b tb gb) : JE X W (.Compare a [op] [b] pos) (tOp r ta tb) (eOp f ga gb) := ⟨pe_cmpR ho ha.pe hb.pe hm, im_op hs ha.im hb.im⟩
theorem jt_cmp {op : CmpOp} {r : R2} {f : PV → PV → Option PV} (hs : SimR2 X.K r f) (ho : OpR X (compareOp op) r) (hm : behindInMarks op b = false) (ha : JG X W a ta ga) (hb : JG X W b tb gb) : JT X W (.Compare a [op] [b] pos) (tTest (tOp r ta tb)) (bE (eOp f ga gb)) := ⟨pt_cmpR ho ha.pe hb.pe hm, im_bE (im_op hs ha.im hb.im)⟩
/-- x[i] -/
theorem j_ix {r : R2} {f : PV → PV → Option PV} (hs : SimB2 X.K r f) (hr : IxR X r) (ha : JG X W a ta ga) (hb : JG X W b tb gb) (hp : PlainIx b := by intro _ _; rfl) : JE X W (.Subscript a b pos) (tOp r ta tb) (eOp (fun x y => immO (f x y)) ga gb) := ⟨pe_ix hr ha.pe hb.pe hp, im_op hs.i ha.im hb.im⟩
theorem jr_ix {r : R2} {f : PV → PV → Option PV} (hs : SimB2 X.K r f) (hr : IxR X r) (ha : JR X a ta ra) (hb : JR X b tb rb) (hp : PlainIx b := by intro _ _; rfl) : JR X (.Subscript a b pos) (tOp r ta tb) (rOp f ra rb) := ⟨pe_ix hr ha.pe hb.pe hp, im_rOp hs ha.im hb.im⟩
/-- builtins by name -/
theorem j_callB {x : Str} {p : Pos} {id : String} {r : List V → Hp → VK → Prop} {f : List PV → Option PV} (hs : SimL X.K r f) (hc : CallR X (.builtin id) r) (hv : bootBuiltins x = some (.builtin id)) (hm : X.mg x = none) (ha : JA X W (e :: es) tA am) (hg : Gl X x := by rfl) (hn : x ≠ "__name__" := by decide) (hdb : (x == ("__debug__" : Str)) = false := by decide)
    (he : starEach (e :: es) X.env = (false, eval e X.env) :: starEach es X.env := by rfl) (hpl : (backTo pos (starEach es X.env)).any (·.1) = false := by rfl) : JE X W (.Call (.Name x p) (e :: es) [] pos) (tCB r tA) (eCl f am) := ⟨pe_callB hc hg hm hv ha.pa hn hdb he hpl, im_cl hs ha.im⟩
theorem j_callTy {x : Str} {p : Pos} {T : String} {r : List V → Hp → VK → Prop} {f : List PV → Option PV} (hs : SimL X.K r f) (hc : CallR X (.type T) r) (hv : bootBuiltins x = some (.type T)) (hm : X.mg x = none) (ha : JA X W (e :: es) tA am) (hg : Gl X x := by rfl) (hn : x ≠ "__name__" := by decide) (hdb : (x == ("__debug__" : Str)) = false := by decide)
    (he : starEach (e :: es) X.env = (false, eval e X.env) :: starEach es X.env := by rfl) (hpl : (backTo pos (starEach es X.env)).any (·.1) = false := by rfl) : JE X W (.Call (.Name x p) (e :: es) [] pos) (tCB r tA) (eCl f am) := ⟨pe_callTy hc hg hm hv ha.pa hn hdb he hpl, im_cl hs ha.im⟩
/-- a def of the text -/
theorem j_call {k n : Nat} {f : Addr} {fd : FuncData} {ps : List Str} {fm : FM} {x : Str} {p : Pos} (F : FnOk X.prog X.w X.K X.mg X.base (L2.CX X.prog X.w) k f fd ps (spF X.K X.mg n fm)) (hr : Room k X.A) (hm : X.mg x = some (.ref f)) (hk : PySem.W.keepIn X.K (.ref f) = true) (hb : Binds X.K fd ps []) (tk : Takes X W)
    (ha : JA X W (e :: es) tA am) (hl : (e :: es).length = n := by rfl) (hg : Gl X x := by rfl) (hdb : (x == ("__debug__" : Str)) = false := by decide) (he : starEach (e :: es) X.env = (false, eval e X.env) :: starEach es X.env := by rfl) (hpl : (backTo pos (starEach es X.env)).any (·.1) = false := by rfl) :
    JE X W (.Call (.Name x p) (e :: es) [] pos) (tCallS (spF X.K X.mg n fm) (WE W) tA) (eCall fm am) :=
  ⟨pe_callS F hr hg hm hk hb (fun σ => passAt tk σ) ha.pa hdb he hpl, im_eCall ha.im fun env as e h => by rw [ha.len env as e h, hl]⟩
/-- a method of a built-in type upon a name -/
theorem j_meth {T id : String} {name x : Str} {i : Nat} {r : V → List V → Hp → VK → Prop} {f : PV → List PV → Option (PV × PV)} {apos p : Pos} (pa : PlainAttrs T) (slot : Slot T name id) (hty : typeOf (.builtin id) = pure (.type "method_descriptor")) (hs : SimM X.K r f) (hm : MtR X id r) (ho : JR X (.Name x p) (tVar i) (rVar i)) (ha : JA X W (e :: es) tA am)
    (hbase : attributeBase (.Name x p) name X.env (eval (.Name x p) X.env) = eval (.Name x p) X.env := by rfl)
    (hfew : ((backTo pos (starEach (e :: es) X.env)).all (fun x => !x.1) && (backToKw pos (keywordEach [] X.env)).all (fun x => x.1.isSome)
      && decide ((e :: es).length + ([] : List Keyword).length + (if ([] : List Keyword).isEmpty then 0 else 1) < 30)) = true := by rfl)
    (hline : (apos.endLine == pos.line) = true := by rfl) (hs' : starEach (e :: es) X.env = (false, eval e X.env) :: starEach es X.env := by rfl) (hplain : (backTo pos (starEach es X.env)).any (·.1) = false := by rfl) :
    JE X W (.Call (.Attribute (.Name x p) name apos) (e :: es) [] pos) (tBM X.K T r (tVar i) tA) (eMeth T i f am) := ⟨pe_bm pa slot hty hm ho.pe ha.pa hbase hfew hline hs' hplain, im_eMeth hs ha.im⟩
theorem j_methB {T id : String} {name x : Str} {i : Nat} {r : V → List V → Hp → VK → Prop} {f : PV → List PV → Option (PV × PV)} {apos p : Pos} (pa : PlainAttrs T) (slot : Slot T name id) (hty : typeOf (.builtin id) = pure (.type "method_descriptor")) (hs : SimMB X.K r f) (hm : MtR X id r) (ho : JR X (.Name x p) (tVar i) (rVar i)) (ha : JA X W (e :: es) tA am)
    (hbase : attributeBase (.Name x p) name X.env (eval (.Name x p) X.env) = eval (.Name x p) X.env := by rfl)
    (hfew : ((backTo pos (starEach (e :: es) X.env)).all (fun x => !x.1) && (backToKw pos (keywordEach [] X.env)).all (fun x => x.1.isSome)
      && decide ((e :: es).length + ([] : List Keyword).length + (if ([] : List Keyword).isEmpty then 0 else 1) < 30)) = true := by rfl)
    (hline : (apos.endLine == pos.line) = true := by rfl) (hs' : starEach (e :: es) X.env = (false, eval e X.env) :: starEach es X.env := by rfl) (hplain : (backTo pos (starEach es X.env)).any (·.1) = false := by rfl) :
    JE X W (.Call (.Attribute (.Name x p) name apos) (e :: es) [] pos) (tBM X.K T r (tVar i) tA) (eMethB T i f am) := ⟨pe_bm pa slot hty hm ho.pe ha.pa hbase hfew hline hs' hplain, im_eMethB hs ha.im⟩
theorem j_meth0 {T id : String} {name x : Str} {i : Nat} {r : V → List V → Hp → VK → Prop} {f : PV → List PV → Option (PV × PV)} {apos p : Pos} (pa : PlainAttrs T) (slot : Slot T name id) (hty : typeOf (.builtin id) = pure (.type "method_descriptor")) (hs : SimM X.K r f) (hm : MtR X id r) (ho : JR X (.Name x p) (tVar i) (rVar i))
    (hbase : attributeBase (.Name x p) name X.env (eval (.Name x p) X.env) = eval (.Name x p) X.env := by rfl) (hline : (apos.endLine == pos.line) = true := by rfl) :
    JE X W (.Call (.Attribute (.Name x p) name apos) [] [] pos) (tBM0 X.K T r (tVar i)) (eMeth0 T i f) := ⟨pe_bm0 pa slot hty hm ho.pe hbase hline, im_eMeth0 hs⟩
/-! and, or, not, if -/
variable {tT tU : TT} {ba bb : BM} {rest : List Expr}
theorem jt_val (h : JE X W e te m) (he : ∀ whole, isTrue e X.env whole = (do let v ← whole; standAt e.pos; holding [v] (truthy v)) := by intro _; rfl) : JT X W e (tB te) (bE m) := ⟨pt_val h.pe he, im_bE h.im⟩
theorem jw_and1 (h : JT X W a tT ba) : JW X W (.BoolOp .And [a] pos) tT ba := ⟨pw_and1 h.pt, h.im⟩
theorem jw_or1 (h : JT X W a tT ba) : JW X W (.BoolOp .Or [a] pos) tT ba := ⟨pw_or1 h.pt, h.im⟩
theorem jw_and (h : JT X W a tT ba) (r : JW X W (.BoolOp .And (b :: rest) pos) tU bb) : JW X W (.BoolOp .And (a :: b :: rest) pos) (tAnd tT tU) (bAnd ba bb) := ⟨pw_and h.pt r.pw, im_bAnd h.im r.im⟩
theorem jw_or (h : JT X W a tT ba) (r : JW X W (.BoolOp .Or (b :: rest) pos) tU bb) : JW X W (.BoolOp .Or (a :: b :: rest) pos) (tOr tT tU) (bOr ba bb) := ⟨pw_or h.pt r.pw, im_bOr h.im r.im⟩
theorem JW.t (h : JW X W e tT ba) : JT X W e tT ba := ⟨h.pw.pt, h.im⟩
theorem jt_not (h : JT X W a tT ba) : JT X W (.UnaryOp .Not a pos) (tNot tT) (bNot ba) := ⟨pt_not h.pt, im_bNot h.im⟩
theorem j_one {op} (h : JE X W a ta ma) : JE X W (.BoolOp op [a] pos) ta ma := ⟨pe_one h.pe, h.im⟩
theorem j_and (h : JE X W a ta ma) (r : JE X W (.BoolOp .And (b :: rest) pos) tb mb) : JE X W (.BoolOp .And (a :: b :: rest) pos) (tAndV ta tb) (eAnd ma mb) := ⟨pe_and h.pe r.pe, im_eAnd h.im r.im⟩
theorem j_or (h : JE X W a ta ma) (r : JE X W (.BoolOp .Or (b :: rest) pos) tb mb) : JE X W (.BoolOp .Or (a :: b :: rest) pos) (tOrV ta tb) (eOr ma mb) := ⟨pe_or h.pe r.pe, im_eOr h.im r.im⟩
theorem j_not (h : JE X W a ta ma) : JE X W (.UnaryOp .Not a pos) (tNotV ta) (eNot ma) := ⟨pe_not h.pe, im_eNot h.im⟩
theorem j_if (hc : JT X W c tT ba) (ha : JE X W a ta ma) (hb : JE X W b tb mb) : JE X W (.IfExp c a b pos) (tIf tT ta tb) (eIf ba ma mb) := ⟨pe_ifExp hc.pt ha.pe hb.pe, im_eIf hc.im ha.im hb.im⟩
/-! targets -/
theorem jp_n (i : Nat) {x : Str} (hN : X.N.Nodup) (hi : X.N[i]? = some x := by rfl) (hx : Loc X.env.scope x := by first | exact Or.inl rfl | exact Or.inr rfl) (hf : X.fn x = true ∨ X.env.scope.names.lookup x = some .local := by first | exact .inl rfl | exact .inr rfl | assumption) : JP X [i] (.Name x pos) (gName i) (tgN i) := ⟨pg_name hN hi hx hf, im_tgN i⟩
theorem jps_nil : JPs X S [] gNil tgsNil := ⟨pgs_nil, im_tgsNil⟩
theorem jps_cons {tg : TG} {tgs : TGs} {mt : TM} {mts : List PV → PEnv → Option PEnv} (h : JP X S1 e tg mt) (r : JPs X S2 es tgs mts) (hs : (assignEach (e :: es) X.env).map (·.2) = assign e X.env :: (assignEach es X.env).map (·.2) := by rfl) : JPs X (S1 ++ S2) (e :: es) (gCons tg tgs) (tgsCons mt mts) := ⟨pgs_cons h.pg r.pg hs, im_tgsCons h.im r.im⟩
theorem jp_t {k n : Nat} {tgs : TGs} {mts : List PV → PEnv → Option PEnv} (hc : X.calm = true) (r : JPs X S es tgs mts) (hn : (assignEach es X.env).length = n := by rfl) (hst : (assignEach es X.env).findIdx? (·.1) = none := by rfl) : JP X S (.Tuple es k pos) (gTup X.K n tgs) (tgT n mts) := ⟨pg_tup hc r.pg hn hst, im_tgT r.im⟩
/-! what is walked -/
variable {tg : Expr} {tI : TI} {it : PEnv → EO (List PV)}
theorem ji_l (h : JE X W e te m) : JI X W tg e (iList X.K te) (itL m) := ⟨pi_list h.pe, im_itL h.im⟩
theorem ji_t (h : JE X W e te m) : JI X W tg e (iTup X.K te) (itT m) := ⟨pi_tup h.pe, im_itT h.im⟩
theorem ji_r1 {p : Pos} (hm : X.mg "range" = none) (ha : JA X W [a] tA am) (hg : Gl X "range" := by rfl) (hs : starEach [a] X.env = [(false, eval a X.env)] := by rfl) : JI X W tg (.Call (.Name "range" p) [a] [] pos) (iRng1 tA) (itR1 am) := ⟨pi_range1 hg hm ha.pa hs, im_itR1 ha.im⟩
theorem ji_r2 {p : Pos} (hm : X.mg "range" = none) (ha : JA X W [a, b] tA am) (hg : Gl X "range" := by rfl) (hs : starEach [a, b] X.env = [(false, eval a X.env), (false, eval b X.env)] := by rfl) (hs2 : starEach [b] X.env = [(false, eval b X.env)] := by rfl) : JI X W tg (.Call (.Name "range" p) [a, b] [] pos) (iRng2 tA) (itR2 am) := ⟨pi_range2 hg hm ha.pa hs hs2, im_itR2 ha.im⟩
/-- a list or a tuple -/
theorem pi_or {w1 w2 : TI} (h1 : PI X tg e w1) (h2 : PI X tg e w2) : PI X tg e (fun σ H R => w1 σ H R ∨ w2 σ H R) := ⟨fun pins s σ H R I h => by
  rcases h with h | h
  · exact h1.run pins s σ H R I h
  · exact h2.run pins s σ H R I h⟩
def itS (m : EM) : PEnv → EO (List PV) := fun env => match m env with
  | .ok (.tup xs) e => itT (fun _ => .ok (.tup xs) e) env
  | o => itL (fun _ => o) env
theorem ji_s (h : JE X W e te m) : JI X W tg e (fun σ H R => iList X.K te σ H R ∨ iTup X.K te σ H R) (itS m) := by
  refine ⟨pi_or (pi_list h.pe) (pi_tup h.pe), fun σ H R env F hr hn hp => ?_⟩
  have e1 : ∀ o, m env = o → itL m env = itL (fun _ => o) env ∧ itT m env = itT (fun _ => o) env := fun o e => by unfold itL itT; rw [e]; exact ⟨rfl, rfl⟩
  unfold itS at hp
  split at hp
  · rename_i xs e q
    rw [← (e1 _ q).2] at hp
    exact .inr (im_itT h.im σ H R env F hr hn hp)
  · rename_i q
    rw [← (e1 _ rfl).1] at hp
    exact .inl (im_itL h.im σ H R env F hr hn hp)
/-! comprehensions -/
theorem j_lc {elt iter : Expr} {scope : Scope} {own : List (Str × Nat)} {tt : TT} {te : TE} {g : TG} {mt : TM} {mc : BM} {me : EM} {ifs : List Expr} (hc : X.calm = true) (hN : X.N.Nodup) (hi : JI X W tg iter tI it) (ok : blkC X.N X.env.scope scope own = true)
    (hg : ∀ (s : Shared) (H : Hp) (C : Addr) (cl : List (Str × Addr)) (fp : List Addr), JP (X.blk s H scope (compEnvC scope cl C X.env) fp) S tg g mt) (hS : ∀ j ∈ S, j ∈ own.map (·.2))
    (ht : ∀ (s : Shared) (H : Hp) (C : Addr) (cl : List (Str × Addr)) (fp : List Addr), PTs (X.blk s H scope (compEnvC scope cl C X.env) fp) ifs tt ∧ ImT X.K X.mg W0 tt mc)
    (he : ∀ (s : Shared) (H : Hp) (C : Addr) (cl : List (Str × Addr)) (fp : List Addr), JE (X.blk s H scope (compEnvC scope cl C X.env) fp) W0 elt te me) (hs : ∀ x, foldedSetIterable iter X.env x = pure x := by intro _; rfl) :
    JE X W (.ListComp elt [⟨tg, iter, ifs, 0⟩] scope pos) (tLc tI g tt te (own.map (·.2))) (eLC it (own.map (·.2)) mt mc me) :=
  ⟨pe_lc hc hN hi.pi (blkOk_by ok) (fun s H C cl fp => (hg s H C cl fp).pg) (fun s H C cl fp => (ht s H C cl fp).1) (fun s H C cl fp => (he s H C cl fp).pe) hs,
    im_eLC hi.im (hg X.s_0 X.H_0 0 [] []).im hS (ht X.s_0 X.H_0 0 [] []).2 (he X.s_0 X.H_0 0 [] []).im⟩
end
end PVL

/-! P7: joint rules for statements. -/
namespace PVL
open PySem PySem.Spec L2
section
variable {X : Cx} {W : WX} {S S1 S2 : List Nat} {e a b c : Expr} {te : TE} {tA : TA} {m : EM} {am : AM} {k : RM} {pos : Pos} {st : Stmt} {sts body orelse : List Stmt} {t u : TS} {sa sb : SM} {tt : TT} {bc : BM}
theorem jss_nil : JSs X W S [] tNext sNil := ⟨pss_nil, im_sNil⟩
theorem jss_one (h : JS X W S st t sa) : JSs X W S [st] t sa := ⟨pss_one h.ps, h.im⟩
theorem jss_cons (h : JS X W S1 st t sa) (r : JSs X W S2 sts u sb) : JSs X W (S1 ++ S2) (st :: sts) (tSeq t u) (sSeq sa sb) := ⟨pss_cons h.ps r.ps, im_sSeq h.im r.im⟩
theorem js_pass : JS X W S (.Pass pos) tNext sNil := ⟨ps_pass, im_sNil⟩
theorem js_brk : JS X W S (.Break pos) tBreak sBrk := ⟨ps_break, im_sBrk⟩
theorem js_cont : JS X W S (.Continue pos) tCont sCont := ⟨ps_continue, im_sCont⟩
theorem js_doc {x j pos'} : JS X W S (.Expr (.Constant (.str x) j pos) pos') tNext sNil := ⟨ps_doc, im_sNil⟩
theorem js_expr (h : JE X W e te m) (hs : swapsWith e none pos.line X.env = pure false := by rfl) : JS X W S (.Expr e pos) (tDrop te) (sExpr m) := ⟨ps_expr h.pe hs, im_sExpr h.im⟩
theorem js_ret (h : JE X W e te m) : JS X W S (.Return (some e) pos) (tRet te) (sRet m) := ⟨ps_ret h.pe, im_sRet h.im⟩
theorem js_retN : JS X W S (.Return none pos) tRetN sRetN := ⟨ps_retN, im_sRetN⟩
theorem js_if (hc : JT X W c tt bc) (ha : JSs X W S1 body t sa) (hb : JSs X W S2 orelse u sb) : JS X W (S1 ++ S2) (.If c body orelse pos) (tIfS tt t u) (sIf bc sa sb) := ⟨ps_if hc.pt ha.ps hb.ps, im_sIf hc.im ha.im hb.im⟩
theorem js_set (i : Nat) {x : Str} {pos' : Pos} (hN : X.N.Nodup) (h : JE X W e te m) (hi : X.N[i]? = some x := by rfl) (hx : Loc X.env.scope x := by first | exact Or.inl rfl | exact Or.inr rfl) (hs : swapsWith e (some (.Name x pos')) pos.line X.env = pure false := by rfl) (hf : X.fn x = true ∨ X.env.scope.names.lookup x = some .local := by first | exact .inl rfl | exact .inr rfl | assumption) :
    JS X W [i] (.Assign [.Name x pos'] e pos) (tAsg te (gName i)) (sAsg m (tgN i)) := ⟨ps_set hN hi hx h.pe hs hf, im_sAsg h.im (im_tgN i)⟩
theorem js_asg {tg : Expr} {g : TG} {mt : TM} (h : JE X W e te m) (hg : JP X S tg g mt) (hs : swapsWithSole [tg] e pos.line X.env = pure false := by rfl) (hw : swappedStores [tg] e X.env = pure none := by rfl) (h1 : (assignEach [tg] X.env).map (·.2) = [assign tg X.env] := by rfl) : JS X W S (.Assign [tg] e pos) (tAsg te g) (sAsg m mt) := ⟨ps_asg h.pe hg.pg hs hw h1, im_sAsg h.im hg.im⟩
theorem js_par {i j : Nat} {x y : Str} {px py pt : Pos} {kt k2 pt2} (hc : X.calm = true) (hN : X.N.Nodup) (hi : X.N[i]? = some x) (hj : X.N[j]? = some y) (hij : i ≠ j) (hx : X.env.scope.names.lookup x = some .local) (hy : X.env.scope.names.lookup y = some .local) (ha : JA X W [a, b] tA am)
    (hw : swappedStores [.Tuple [.Name x px, .Name y py] kt pt] (.Tuple [a, b] k2 pt2) X.env = pure (some [x, y])) (hs : swapsWithSole [.Tuple [.Name x px, .Name y py] kt pt] (.Tuple [a, b] k2 pt2) pos.line X.env = pure false := by rfl) :
    JS X W [i, j] (.Assign [.Tuple [.Name x px, .Name y py] kt pt] (.Tuple [a, b] k2 pt2) pos) (tPar i j tA) (sPar i j am) := ⟨ps_par hc hN hi hj hij hx hy ha.pa hw hs, im_sPar hij ha.im⟩
theorem js_setLc (i : Nat) {y : Str} {py : Pos} {elt tg iter : Expr} {scope : Scope} {own : List (Str × Nat)} {pos spos : Pos} {tI : TI} {it : PEnv → EO (List PV)} {tt : TT} {te : TE} {g : TG} {mt : TM} {mc : BM} {me : EM} {ifs : List Expr} (hc : X.calm = true) (hN : X.N.Nodup) (hi : JI X W tg iter tI it) (ok : blkC X.N X.env.scope scope own = true)
    (hg : ∀ (s : Shared) (H : Hp) (C : Addr) (cl : List (Str × Addr)) (fp : List Addr), JP (X.blk s H scope (compEnvC scope cl C X.env) fp) S tg g mt) (hS : ∀ j ∈ S, j ∈ own.map (·.2))
    (ht : ∀ (s : Shared) (H : Hp) (C : Addr) (cl : List (Str × Addr)) (fp : List Addr), PTs (X.blk s H scope (compEnvC scope cl C X.env) fp) ifs tt ∧ ImT X.K X.mg W0 tt mc)
    (he : ∀ (s : Shared) (H : Hp) (C : Addr) (cl : List (Str × Addr)) (fp : List Addr), JE (X.blk s H scope (compEnvC scope cl C X.env) fp) W0 elt te me) (hy : X.N[i]? = some y := by rfl) (hyl : X.env.scope.names.lookup y = some .local := by rfl)
    (hsw : swapsWith (.ListComp elt [⟨tg, iter, ifs, 0⟩] scope pos) (some (.Name y py)) spos.line X.env = pure true := by exact sw_true rfl rfl rfl (by decide +kernel)) (hs : ∀ x, foldedSetIterable iter X.env x = pure x := by intro _; rfl) :
    JS X W [i] (.Assign [.Name y py] (.ListComp elt [⟨tg, iter, ifs, 0⟩] scope pos) spos) (tAsg (tLc tI g tt te (own.map (·.2))) (gName i)) (sAsg (eLC it (own.map (·.2)) mt mc me) (tgN i)) :=
  ⟨ps_setLc hc hN hy hyl hsw hi.pi (blkOk_by ok) (fun s H C cl fp => (hg s H C cl fp).pg) (fun s H C cl fp => (ht s H C cl fp).1) (fun s H C cl fp => (he s H C cl fp).pe) hs,
    im_sAsg (im_eLC hi.im (hg X.s_0 X.H_0 0 [] []).im hS (ht X.s_0 X.H_0 0 [] []).2 (he X.s_0 X.H_0 0 [] []).im) (im_tgN i)⟩
def bYes : BM := fun env => .ok true env
theorem jtt_nil {K : PySem.W.Frag} {mg : Str → Option Value} : PTs X [] tYes ∧ ImT K mg W0 tYes bYes := ⟨pts_nil, fun σ H Q env F hr hn hp => hp H F hr hn Fm.refl⟩
theorem jtt_one {K : PySem.W.Frag} {mg : Str → Option Value} (h : JT X W0 c tt bc) (e1 : X.K = K := by rfl) (e2 : X.mg = mg := by rfl) : PTs X [c] tt ∧ ImT K mg W0 tt bc := ⟨pts_one h.pt, by subst e1; subst e2; exact h.im⟩
theorem js_setIx {i : Nat} {x : Str} {idx : Expr} {tk : TE} {r : TSet} {f : PV → PV → PV → Option PV} {p p2 : Pos} (hs : SimSet X.K r f) (hset : PSet X r) (h : JE X W e te m) (ho : JR X (.Name x p) (tVar i) (rVar i)) (hk : JR X idx tk k)
    (ha : ∀ v, assign (.Subscript (.Name x p) idx p2) X.env v = (do
      let ov ← holding [v] (eval (.Name x p) X.env)
      let iv ← holding [v, ov] (eval idx X.env)
      standAt p2
      holding [v, ov, iv] (setItem ov iv v)
      release [v, ov, iv] []) := by intro _; rfl)
    (hs' : swapsWithSole [.Subscript (.Name x p) idx p2] e pos.line X.env = pure false := by rfl) (hw : swappedStores [.Subscript (.Name x p) idx p2] e X.env = pure none := by rfl) (h1 : (assignEach [.Subscript (.Name x p) idx p2] X.env).map (·.2) = [assign (.Subscript (.Name x p) idx p2) X.env] := by rfl) :
    JS X W S (.Assign [.Subscript (.Name x p) idx p2] e pos) (tAsg te (gSub (tVar i) tk r)) (sSetIx i k f m) := ⟨ps_asg h.pe (pg_sub ho.pe hk.pe hset ha) hs' hw h1, im_sSetIx hs h.im hk.im⟩
theorem js_aug (i : Nat) {x : Str} {op : Operator} {r : TIp} {f : PV → PV → Option PV} {pos' : Pos} (hs : SimI X.K r f) (hip : PIp X op r) (hN : X.N.Nodup) (h : JE X W e te m) (hi : X.N[i]? = some x := by rfl) (hx : Loc X.env.scope x := by first | exact Or.inl rfl | exact Or.inr rfl) (hf : X.fn x = true ∨ X.env.scope.names.lookup x = some .local := by first | exact .inl rfl | exact .inr rfl | assumption) :
    JS X W [i] (.AugAssign (.Name x pos') op e pos) (tAug i te r) (sAug i f m) := ⟨ps_aug hN hi hx h.pe hip hf, im_sAug hs h.im⟩
theorem js_augIx {i : Nat} {x : Str} {idx : Expr} {tk : TE} {op : Operator} {rg : V → V → Hp → VK → Prop} {g : PV → PV → Option PV} {ri : TIp} {f : PV → PV → Option PV} {rs : TSet} {fs : PV → PV → PV → Option PV} {p p2 : Pos}
    (hg : SimB2 X.K rg g) (hgo : PGet X rg) (hi : SimI X.K ri f) (hip : PIp X op ri) (hs : SimSet X.K rs fs) (hset : PSet X rs) (ho : JR X (.Name x p) (tVar i) (rVar i)) (hk : JR X idx tk k) (h : JE X W e te m)
    (ha : ∀ ov iv new, augStore idx ov iv new = (do holding [new, ov, iv] (setItem ov iv new); release [new, ov, iv] []; pure .next) := by intros; rfl) :
    JS X W S (.AugAssign (.Subscript (.Name x p) idx p2) op e pos) (tAugS (tVar i) tk te rg ri rs) (sAugIx i k g m f fs) := ⟨ps_augS ho.pe hk.pe hgo h.pe hip hset ha, im_sAugIx hg hi hs hk.im h.im⟩
variable {tg iter : Expr} {g : TG} {mt : TM} {tI : TI} {it : PEnv → EO (List PV)}
theorem js_for (hp : PassesOwn (model X.prog X.w) X.A X.env X.xe) (hc : X.calm = true) (hi : JI X W tg iter tI it) (hg : JP X S1 tg g mt) (hb : JSs X W S2 body t sa) (hs : ∀ x, foldedSetIterable iter X.env x = pure x := by intro _; rfl) :
    JS X W (S1 ++ S2) (.For tg iter body [] pos) (tFor tI g t) (sFor it mt sa) := ⟨ps_for hp hc hi.pi hg.pg hb.ps hs, im_sFor hi.im hg.im hb.im⟩
theorem js_forV {i : Nat} (hp : PassesOwn (model X.prog X.w) X.A X.env X.xe) (hc : X.calm = true) (hv : JR X iter (tVar i) (rVar i)) (hg : JP X S1 tg g mt) (hb : JSs X W S2 body t sa) (hi : i ∉ S1 ++ S2 := by decide) (hs : ∀ x, foldedSetIterable iter X.env x = pure x := by intro _; rfl) :
    JS X W (S1 ++ S2) (.For tg iter body [] pos) (tFor (iList X.K (tVar i)) g t) (sForV i mt sa) := ⟨ps_for hp hc (pi_list hv.pe) hg.pg hb.ps hs, im_sForV hg.im hb.im hi⟩
theorem js_while (n : Nat) (hp : PassesOwn (model X.prog X.w) X.A X.env X.xe) (hc : JT X W c tt bc) (hb : JSs X W S body t sa) : JS X W S (.While c body [] pos) (tWhile tt t) (whileL bc sa n) := ⟨ps_while hp hc.pt hb.ps, im_whileL n hc.im hb.im⟩
end
end PVL

/-! P8: operations. -/
namespace PVL
open PySem PySem.Spec L2

section
variable {K : PySem.W.Frag} {X : Cx}
/-! ### small tools -/
theorem rv_int {H : Hp} {i : Int} {v : V} {F : List Addr} (h : RV K H (.int i) v F) : v = .int i := by simp only [RV] at h; exact h.1
theorem rv_str {H : Hp} {i : Str} {v : V} {F : List Addr} (h : RV K H (.str i) v F) : v = .str i := by simp only [RV] at h; exact h.1
theorem rv_bl {H : Hp} {i : Bool} {v : V} {F : List Addr} (h : RV K H (.bl i) v F) : v = .bl i := by simp only [RV] at h; exact h.1
theorem rv_non {H : Hp} {v : V} {F : List Addr} (h : RV K H .non v F) : v = .non := by simp only [RV] at h; exact h.1
theorem New.int {H : Hp} {Q : VK} {i : Int} (h : New K H Q (.int i)) : Q (.int i) H := h _ H [] (fun _ _ e => e) (by simp [RV]) List.nodup_nil (fun b z => by simp at z)
theorem New.str {H : Hp} {Q : VK} {i : Str} (h : New K H Q (.str i)) : Q (.str i) H := h _ H [] (fun _ _ e => e) (by simp [RV]) List.nodup_nil (fun b z => by simp at z)
theorem New.bl {H : Hp} {Q : VK} {i : Bool} (h : New K H Q (.bl i)) : Q (.bl i) H := h _ H [] (fun _ _ e => e) (by simp [RV]) List.nodup_nil (fun b z => by simp at z)
theorem New.tup {H : Hp} {Q : VK} {xs : List PV} {vs : List V} (h : New K H Q (.tup xs)) (r : RVL K H xs vs []) : ∀ p, H p = none → Q (.ref p) (upd H p (.tup vs)) := fun p np =>
  h _ _ [] (sm_upd np) (by simp only [RV]; exact ⟨p, vs, rfl, .inl (.inl upd_same), r.sm (sm_upd np)⟩) List.nodup_nil (fun b z => by simp at z)
theorem New.old {H : Hp} {Q : VK} {x : PV} {v : V} (h : New K H Q x) (r : RV K H x v []) : Q v H := h _ H [] (fun _ _ e => e) r List.nodup_nil (fun b z => by simp at z)
theorem New.lst {H : Hp} {Q : VK} {xs : List PV} {vs : List V} (h : New K H Q (.lst xs)) (r : RVL K H xs vs []) : ∀ p, H p = none → Q (.ref p) (upd H p (.lst vs)) := fun p np =>
  h _ _ [p] (sm_upd np) (by simp only [RV]; exact ⟨p, vs, [], rfl, upd_same, r.sm (sm_upd np), rfl⟩) (by simp) (fun b z => by simp at z; rw [z]; exact np)
theorem RVL.nil_of {H : Hp} {xs : List PV} {vs : List V} {F : List Addr} (hi : immL xs = true) (h : RVL K H xs vs F) : RVL K H xs vs [] := by
  have e := RVL.imm hi h
  subst e; exact h
theorem immL_append {xs ys : List PV} : immL (xs ++ ys) = (immL xs && immL ys) := by
  induction xs with
  | nil => simp [immL]
  | cons x r ih => simp [immL, ih, Bool.and_assoc]

/-! ### binary -/
def pAdd : PV → PV → Option PV
  | .int a, .int b => some (.int (a + b))
  | .str a, .str b => if a.length + b.length ≤ sizeLine then some (.str (a ++ b)) else none
  | .tup a, .tup b => if a.length + b.length ≤ sizeLine ∧ immL a = true ∧ immL b = true then some (.tup (a ++ b)) else none
  | .lst a, .lst b => if a.length + b.length ≤ sizeLine ∧ immL a = true ∧ immL b = true then some (.lst (a ++ b)) else none
  | _, _ => none
abbrev rAddI : R2 := rI0 fun i j => .int (i + j)
abbrev rAddS : R2 := fun x y H Q => ∃ i j, x = .str i ∧ y = .str j ∧ i.length + j.length ≤ sizeLine ∧ Q (.str (i ++ j)) H
abbrev rAddP (K : PySem.W.Frag) : R2 := fun x y H Q => rAddI x y H Q ∨ (fun x y H Q => rAddS x y H Q ∨ (fun x y H Q => rCatA K x y H Q ∨ rCat x y H Q) x y H Q) x y H Q
theorem op_addP : OpR X (binaryOp .Add) (rAddP X.K) := op_add.or (op_add_str.or (op_catA.or op_cat))
theorem sim_add : SimR2 K (rAddP K) pAdd := by
  intro x y H Q px py Fx Fy hx hy q
  unfold pAdd at q
  split at q
  · rename_i a b
    exact .inl ⟨a, b, rv_int hx, rv_int hy, New.int q⟩
  · rename_i a b
    split at q
    · rename_i hz
      exact .inr (.inl ⟨a, b, rv_str hx, rv_str hy, hz, New.str q⟩)
    · exact q.elim
  · rename_i xs ys
    split at q
    · rename_i hz
      obtain ⟨h1, h2, h3⟩ := hz
      simp only [RV] at hx hy
      obtain ⟨a, vs, rfl, ha, hl⟩ := hx
      obtain ⟨b, ws, rfl, hb, hm⟩ := hy
      have l1 := hl.nil_of h2
      have l2 := hm.nil_of h3
      refine .inr (.inr (.inl ⟨a, b, vs, ws, rfl, rfl, ha, hb, by rw [hl.length, hm.length]; exact h1, fun e => ?_, fun _ e => ?_, fun _ _ p np => New.tup q (l1.append l2) p np⟩))
      · subst e
        have : xs = [] := List.length_eq_zero_iff.mp (by rw [← hl.length]; rfl)
        subst this
        exact New.old q (by simp only [RV, List.nil_append]; exact ⟨b, ws, rfl, hb, l2⟩)
      · subst e
        have : ys = [] := List.length_eq_zero_iff.mp (by rw [← hm.length]; rfl)
        subst this
        exact New.old q (by simp only [RV, List.append_nil]; exact ⟨a, vs, rfl, ha, l1⟩)
    · exact q.elim
  · rename_i xs ys
    split at q
    · rename_i hz
      obtain ⟨h1, h2, h3⟩ := hz
      simp only [RV] at hx hy
      obtain ⟨a, vs, _, rfl, ha, hl, _⟩ := hx
      obtain ⟨b, ws, _, rfl, hb, hm, _⟩ := hy
      exact .inr (.inr (.inr ⟨a, b, vs, ws, rfl, rfl, ha, hb, by rw [hl.length, hm.length]; exact h1, New.lst q ((hl.nil_of h2).append (hm.nil_of h3))⟩))
    · exact q.elim
  · exact q.elim
abbrev rAddIP : TIp := fun x y H Q => rAddI x y H Q ∨ rAddS x y H Q
theorem ip_addP : PIp X .Add rAddIP := OpR.or (f := inplaceOp .Add) iop_add iop_add_str
def pAddI : PV → PV → Option PV
  | .int a, .int b => some (.int (a + b))
  | .str a, .str b => if a.length + b.length ≤ sizeLine then some (.str (a ++ b)) else none
  | _, _ => none
theorem sim_addI : SimI K rAddIP pAddI := by
  intro x y H Q px py Fx Fy hx hy q
  unfold pAddI at q
  split at q
  · rename_i a b
    exact .inl ⟨a, b, rv_int hx, rv_int hy, New.int q⟩
  · rename_i a b
    split at q
    · rename_i hz
      exact .inr ⟨a, b, rv_str hx, rv_str hy, hz, New.str q⟩
    · exact q.elim
  · exact q.elim
/-- ints under a condition -/
def pI (c : Int → Int → Prop) [∀ i j, Decidable (c i j)] (g : Int → Int → Int) : PV → PV → Option PV
  | .int a, .int b => if c a b then some (.int (g a b)) else none
  | _, _ => none
theorem sim_I {c : Int → Int → Prop} [∀ i j, Decidable (c i j)] {g : Int → Int → Int} : SimR2 K (rI c fun i j => .int (g i j)) (pI c g) := by
  intro x y H Q px py Fx Fy hx hy q
  unfold pI at q
  split at q
  · rename_i a b
    split at q
    · rename_i hz
      exact ⟨a, b, rv_int hx, rv_int hy, hz, New.int q⟩
    · exact q.elim
  · exact q.elim
def pI0 (g : Int → Int → Int) : PV → PV → Option PV
  | .int a, .int b => some (.int (g a b))
  | _, _ => none
theorem sim_I0 {g : Int → Int → Int} : SimR2 K (rI0 fun i j => .int (g i j)) (pI0 g) := by
  intro x y H Q px py Fx Fy hx hy q
  unfold pI0 at q
  split at q
  · rename_i a b
    exact ⟨a, b, rv_int hx, rv_int hy, New.int q⟩
  · exact q.elim
def pB0 (g : Int → Int → Bool) : PV → PV → Option PV
  | .int a, .int b => some (.bl (g a b))
  | _, _ => none
theorem sim_B0 {g : Int → Int → Bool} : SimR2 K (rI0 fun i j => .bl (g i j)) (pB0 g) := by
  intro x y H Q px py Fx Fy hx hy q
  unfold pB0 at q
  split at q
  · rename_i a b
    exact ⟨a, b, rv_int hx, rv_int hy, New.bl q⟩
  · exact q.elim
instance : ∀ i j, Decidable (CMul i j) := fun i j => decidable_of_iff (i.natAbs < 2 ^ 64 ∨ j.natAbs < 2 ^ 64) (by unfold CMul; omega)
instance : ∀ i j, Decidable (CDiv i j) := fun i j => decidable_of_iff (0 < j ∧ j.natAbs < 1073741824) (by unfold CDiv; omega)
instance : ∀ i j, Decidable (CPow i j) := fun i j => decidable_of_iff (0 ≤ j ∧ j.natAbs ≤ 1000000 ∧ i.natAbs < 2 ^ 64) (by unfold CPow; omega)
abbrev pSub := pI0 fun i j => i - j
abbrev pMul := pI CMul fun i j => i * j
abbrev pDiv := pI CDiv fun i j => i / j
abbrev pMod := pI (fun _ j => 0 < j) fun i j => i % j
def pPow : PV → PV → Option PV := pI CPow fun i j => i ^ j.toNat
def pShl : PV → PV → Option PV := pI CPow fun i j => i * 2 ^ j.toNat
abbrev pLt := pB0 fun i j => decide (i < j)
abbrev pLe := pB0 fun i j => decide (i ≤ j)
abbrev pGt := pB0 fun i j => decide (j < i)
abbrev pGe := pB0 fun i j => decide (j ≤ i)
def pNeg : PV → Option PV
  | .int a => some (.int (-a))
  | _ => none
theorem sim_neg : SimU K (rU fun i => .int (-i)) pNeg := by
  intro x H Q px Fx hx q
  unfold pNeg at q
  split at q
  · rename_i a
    exact ⟨a, rv_int hx, New.int q⟩
  · exact q.elim

/-! ### == -/
mutual
def pD : PV → Option PyData
  | .non => some .none
  | .bl b => some (.bool b)
  | .int i => some (.int i)
  | .str x => some (.str x)
  | .tup xs => (pDL xs).map .tuple
  | .lst xs => (pDL xs).map .list
  | .frz xs => (pDL xs).map .list
  | _ => none
def pDL : List PV → Option (List PyData)
  | [] => some []
  | x :: xs => (pD x).bind fun d => (pDL xs).map (d :: ·)
end
mutual
theorem pD_ok {H : Hp} : ∀ {x : PV} {v : V} {F : List Addr} {d : PyData}, RV K H x v F → pD x = some d → Dp K H v d
  | .non, v, F, d, h, e => by simp only [RV] at h; simp only [pD, Option.some.injEq] at e; subst e; rw [h.1]; exact .non
  | .bl b, v, F, d, h, e => by simp only [RV] at h; simp only [pD, Option.some.injEq] at e; subst e; rw [h.1]; exact .bl b
  | .int b, v, F, d, h, e => by simp only [RV] at h; simp only [pD, Option.some.injEq] at e; subst e; rw [h.1]; exact .int b
  | .str b, v, F, d, h, e => by simp only [RV] at h; simp only [pD, Option.some.injEq] at e; subst e; rw [h.1]; exact .str b
  | .tup xs, v, F, d, h, e => by
    simp only [RV] at h
    simp only [pD, Option.map_eq_some_iff] at e
    obtain ⟨ds, e, rfl⟩ := e
    obtain ⟨a, vs, rfl, ha, hl⟩ := h
    exact .tup ha (pDL_ok hl e)
  | .lst xs, v, F, d, h, e => by
    simp only [RV] at h
    simp only [pD, Option.map_eq_some_iff] at e
    obtain ⟨ds, e, rfl⟩ := e
    obtain ⟨a, vs, _, rfl, ha, hl, _⟩ := h
    exact .lst (SqL.of ha) (pDL_ok hl e)
  | .frz xs, v, F, d, h, e => by
    simp only [RV] at h
    simp only [pD, Option.map_eq_some_iff] at e
    obtain ⟨ds, e, rfl⟩ := e
    obtain ⟨a, vs, rfl, ha, hl, _⟩ := h
    exact .lst ha.toL (pDL_ok hl e)
  | .dct _, _, _, _, _, e => by simp [pD] at e
  | .obj _ _, _, _, _, _, e => by simp [pD] at e
  | .ty _, _, _, _, _, e => by simp [pD] at e
theorem pDL_ok {H : Hp} : ∀ {xs : List PV} {vs : List V} {F : List Addr} {ds : List PyData}, RVL K H xs vs F → pDL xs = some ds → DpAll K H vs ds
  | [], vs, F, ds, h, e => by simp only [RVL] at h; simp only [pDL, Option.some.injEq] at e; subst e; rw [h.1]; exact .nil
  | x :: xs, vs, F, ds, h, e => by
    simp only [RVL] at h
    simp only [pDL, Option.bind_eq_some_iff, Option.map_eq_some_iff] at e
    obtain ⟨d, e1, r, e2, rfl⟩ := e
    obtain ⟨v, vr, _, _, rfl, h1, h2, _⟩ := h
    exact .cons (pD_ok h1 e1) (pDL_ok h2 e2)
end
def scEq : PV → PV → Option Bool
  | .int a, .int b => some (decide (a = b))
  | .str a, .str b => some (decide (a = b))
  | .bl a, .bl b => some (decide (a = b))
  | .non, .non => some true
  | .non, .int _ => some false
  | .non, .str _ => some false
  | .non, .bl _ => some false
  | .int _, .non => some false
  | .str _, .non => some false
  | .bl _, .non => some false
  | .int _, .str _ => some false
  | .str _, .int _ => some false
  | .bl _, .str _ => some false
  | .str _, .bl _ => some false
  | _, _ => none
def eqB (x y : PV) : Option Bool := match scEq x y with
  | some b => some b
  | none => match pD x, pD y with
    | some d, some e => if (SeqAt.shaped d && SeqAt.shaped e) = true then some (PyData.eqv d e) else none
    | _, _ => none
def pEq (x y : PV) : Option PV := (eqB x y).map .bl
def pNe (x y : PV) : Option PV := (eqB x y).map fun b => .bl (!b)
theorem scEq_ok {H : Hp} : ∀ {x y : PV} {v w : V} {F G : List Addr} {b : Bool}, RV K H x v F → RV K H y w G → scEq x y = some b → L2.scal v w = true ∧ decide (v = w) = b := by
  intro x y v w F G b hx hy e
  unfold scEq at e
  split at e <;> first
    | cases e; done
    | (simp only [RV] at hx hy
       rw [hx.1, hy.1]
       simp only [Option.some.injEq] at e
       subst e
       refine ⟨rfl, ?_⟩
       first
         | rfl
         | (simp))
abbrev rEqP (K : PySem.W.Frag) : R2 := fun x y H Q => rEq x y H Q ∨ rEqD K x y H Q
abbrev rNeP (K : PySem.W.Frag) : R2 := fun x y H Q => rNe x y H Q ∨ rNeD K x y H Q
theorem op_eqP (hu : X.A.units + 64 < cLine) : OpR X (compareOp .Eq) (rEqP X.K) := op_eq.or (op_eqD hu)
theorem op_neP (hu : X.A.units + 64 < cLine) : OpR X (compareOp .NotEq) (rNeP X.K) := op_ne.or (op_neD hu)
theorem sim_eq : SimR2 K (rEqP K) pEq := by
  intro x y H Q px py Fx Fy hx hy q
  unfold pEq eqB at q
  split at q
  · rename_i b e
    obtain ⟨h1, h2⟩ := scEq_ok hx hy e
    exact .inl ⟨h1, by rw [h2]; exact New.bl q⟩
  · split at q
    · rename_i d e ed ee
      split at q
      · rename_i hs
        rw [Bool.and_eq_true] at hs
        exact .inr ⟨d, e, pD_ok hx ed, pD_ok hy ee, hs.1, hs.2, New.bl q⟩
      · exact q.elim
    · exact q.elim
theorem sim_ne : SimR2 K (rNeP K) pNe := by
  intro x y H Q px py Fx Fy hx hy q
  unfold pNe eqB at q
  split at q
  · rename_i b e
    obtain ⟨h1, h2⟩ := scEq_ok hx hy e
    exact .inl ⟨h1, by rw [h2]; exact New.bl q⟩
  · split at q
    · rename_i d e ed ee
      split at q
      · rename_i hs
        rw [Bool.and_eq_true] at hs
        exact .inr ⟨d, e, pD_ok hx ed, pD_ok hy ee, hs.1, hs.2, New.bl q⟩
      · exact q.elim
    · exact q.elim
/-- is None -/
def isN : PV → Bool
  | .non => true
  | _ => false
theorem isN_ok {H : Hp} {x : PV} {v : V} {F : List Addr} (h : RV K H x v F) : decide (v = .non) = isN x := by
  cases x <;> simp only [RV] at h <;> first
    | (rw [h.1]; rfl)
    | (obtain ⟨a, vs, rfl, _⟩ := h; rfl)
    | (obtain ⟨a, vs, _, rfl, _⟩ := h; rfl)
    | (obtain ⟨a, vs, _, _, rfl, _⟩ := h; rfl)
def pIsN : PV → PV → Option PV := fun x y => if isN y = true then some (.bl (isN x)) else none
def pNotN : PV → PV → Option PV := fun x y => if isN y = true then some (.bl (!isN x)) else none
theorem sim_isN : SimR2 K (fun x y H Q => y = .non ∧ Q (.bl (decide (x = .non))) H) pIsN := by
  intro x y H Q px py Fx Fy hx hy q
  unfold pIsN at q
  split at q
  · rename_i hn
    refine ⟨?_, by rw [isN_ok hx]; exact New.bl q⟩
    cases py <;> simp [isN] at hn
    exact rv_non hy
  · exact q.elim
theorem sim_notN : SimR2 K (fun x y H Q => y = .non ∧ Q (.bl (!decide (x = .non))) H) pNotN := by
  intro x y H Q px py Fx Fy hx hy q
  unfold pNotN at q
  split at q
  · rename_i hn
    refine ⟨?_, by rw [isN_ok hx]; exact New.bl q⟩
    cases py <;> simp [isN] at hn
    exact rv_non hy
  · exact q.elim

/-! ### in: a flat thing in a list or tuple of flat things -/
def flatP : PV → Bool
  | .non => true
  | .bl _ => true
  | .int _ => true
  | .str _ => true
  | _ => false
end
end PVL

/-! P9: in, items, slices, builtins by name, methods of lists, stores. -/
namespace PVL
open PySem PySem.Spec L2

section
variable {K : PySem.W.Frag} {X : Cx}
/-! ### in -/
theorem flatP_ok {H : Hp} {x : PV} {v : V} {F : List Addr} (h : RV K H x v F) (e : flatP x = true) : flatV v = true := by
  cases x <;> simp [flatP] at e <;> (simp only [RV] at h; rw [h.1]; rfl)
theorem flatL_ok {H : Hp} : ∀ {xs : List PV} {vs : List V} {F : List Addr}, RVL K H xs vs F → xs.all flatP = true → vs.all flatV = true
  | [], vs, F, h, _ => by simp only [RVL] at h; rw [h.1]; rfl
  | x :: xs, vs, F, h, e => by
    simp only [RVL] at h
    obtain ⟨v, vr, _, _, rfl, h1, h2, _⟩ := h
    simp only [List.all_cons, Bool.and_eq_true] at e ⊢
    exact ⟨flatP_ok h1 e.1, flatL_ok h2 e.2⟩
def eqFl : PV → PV → Bool
  | .non, .non => true
  | .bl a, .bl b => a == b
  | .bl a, .int b => (if a then 1 else 0) == b
  | .int a, .bl b => a == (if b then 1 else 0)
  | .int a, .int b => a == b
  | .str a, .str b => a == b
  | _, _ => false
theorem eqFl_ok {H : Hp} {x y : PV} {v w : V} {F G : List Addr} (hx : RV K H x v F) (hy : RV K H y w G) (ex : flatP x = true) (ey : flatP y = true) : eqV v w = eqFl x y := by
  cases x <;> simp [flatP] at ex <;> cases y <;> simp [flatP] at ey <;> (simp only [RV] at hx hy; rw [hx.1, hy.1]; rfl)
theorem inFl_ok {H : Hp} {x : PV} {v : V} {F : List Addr} (hx : RV K H x v F) (ex : flatP x = true) : ∀ {xs : List PV} {vs : List V} {G : List Addr}, RVL K H xs vs G → xs.all flatP = true → inV v vs = xs.any fun y => eqFl y x
  | [], vs, G, h, _ => by simp only [RVL] at h; rw [h.1]; rfl
  | y :: xs, vs, G, h, e => by
    simp only [RVL] at h
    obtain ⟨w, vr, _, _, rfl, h1, h2, _⟩ := h
    simp only [List.all_cons, Bool.and_eq_true] at e
    have ih := inFl_ok hx ex h2 e.2
    unfold inV at ih ⊢
    rw [List.any_cons, List.any_cons, ih, eqFl_ok h1 hx e.1 ex]
def inB (x y : PV) : Option Bool := match y with
  | .str b => (match x with
    | .str a => some (!(Builtin.Str.occurrences b a 0 b.length 1).isEmpty)
    | _ => none)
  | .tup ys => if (flatP x && ys.all flatP) = true then some (ys.any fun y => eqFl y x) else none
  | .lst ys => if (flatP x && ys.all flatP) = true then some (ys.any fun y => eqFl y x) else
      match pD x, pDL ys with
      | some d, some ds => if (SeqAt.shaped d && SeqAt.shaped (.list ds)) = true then some (ds.any fun z => PyData.eqv z d) else none
      | _, _ => none
  | .frz ys => if (flatP x && ys.all flatP) = true then some (ys.any fun y => eqFl y x) else none
  | _ => none
def pIn (x y : PV) : Option PV := (inB x y).map .bl
def pNotIn (x y : PV) : Option PV := (inB x y).map fun b => .bl (!b)
abbrev rInS : R2 := fun x y H Q => ∃ i j, x = .str i ∧ y = .str j ∧ Q (.bl (!(Builtin.Str.occurrences j i 0 j.length 1).isEmpty)) H
abbrev rNotInS : R2 := fun x y H Q => ∃ i j, x = .str i ∧ y = .str j ∧ Q (.bl (!(!(Builtin.Str.occurrences j i 0 j.length 1).isEmpty))) H
abbrev rInP (K : PySem.W.Frag) : R2 := fun x y H Q => rIn K false x y H Q ∨ (fun x y H Q => rInD K x y H Q ∨ rInS x y H Q) x y H Q
abbrev rNotInP (K : PySem.W.Frag) : R2 := fun x y H Q => rIn K true x y H Q ∨ (fun x y H Q => rNotInD K x y H Q ∨ rNotInS x y H Q) x y H Q
theorem op_inP (hu : X.A.units + 65 < cLine) : OpR X (compareOp .In) (rInP X.K) := op_in_seq.or ((op_inD hu).or op_in_str)
theorem op_notInP (hu : X.A.units + 65 < cLine) : OpR X (compareOp .NotIn) (rNotInP X.K) := op_notIn_seq.or ((op_notInD hu).or op_notin_str)
theorem sim_in_core {x y : V} {H : Hp} {px py : PV} {Fx Fy : List Addr} {b : Bool} (hx : RV K H px x Fx) (hy : RV K H py y Fy) (e : inB px py = some b) :
    (∃ p xs, y = .ref p ∧ (SqL K H p xs ∨ SqT K H p xs) ∧ flatV x = true ∧ xs.all flatV = true ∧ inV x xs = b) ∨
    (∃ d ds, Dp K H x d ∧ Dp K H y (.list ds) ∧ SeqAt.shaped d = true ∧ SeqAt.shaped (.list ds) = true ∧ (ds.any fun z => PyData.eqv z d) = b) ∨
    (∃ i j, x = .str i ∧ y = .str j ∧ (!(Builtin.Str.occurrences j i 0 j.length 1).isEmpty) = b) := by
  cases py with
  | str j =>
    simp only [inB] at e
    cases px <;> simp at e
    rename_i i
    exact .inr (.inr ⟨i, j, rv_str hx, rv_str hy, by simpa using e⟩)
  | tup ys =>
    simp only [inB] at e
    split at e
    · rename_i h
      rw [Bool.and_eq_true] at h
      simp only [Option.some.injEq] at e
      simp only [RV] at hy
      obtain ⟨a, vs, rfl, ha, hl⟩ := hy
      exact .inl ⟨a, vs, rfl, .inr ha, flatP_ok hx h.1, flatL_ok hl h.2, by rw [inFl_ok hx h.1 hl h.2]; exact e⟩
    · cases e
  | frz ys =>
    simp only [inB] at e
    split at e
    · rename_i h
      rw [Bool.and_eq_true] at h
      simp only [Option.some.injEq] at e
      simp only [RV] at hy
      obtain ⟨a, vs, rfl, ha, hl, _⟩ := hy
      exact .inl ⟨a, vs, rfl, .inl ha.toL, flatP_ok hx h.1, flatL_ok hl h.2, by rw [inFl_ok hx h.1 hl h.2]; exact e⟩
    · cases e
  | lst ys =>
    simp only [inB] at e
    split at e
    · rename_i h
      rw [Bool.and_eq_true] at h
      simp only [Option.some.injEq] at e
      simp only [RV] at hy
      obtain ⟨a, vs, _, rfl, ha, hl, _⟩ := hy
      exact .inl ⟨a, vs, rfl, .inl (SqL.of ha), flatP_ok hx h.1, flatL_ok hl h.2, by rw [inFl_ok hx h.1 hl h.2]; exact e⟩
    · split at e
      · rename_i d ds ed eds
        split at e
        · rename_i h
          rw [Bool.and_eq_true] at h
          simp only [Option.some.injEq] at e
          exact .inr (.inl ⟨d, ds, pD_ok hx ed, pD_ok hy (by simp [pD, eds]), h.1, h.2, e⟩)
        · cases e
      · cases e
  | _ => simp [inB] at e
theorem sim_in : SimR2 K (rInP K) pIn := by
  intro x y H Q px py Fx Fy hx hy q
  unfold pIn at q
  cases e : inB px py with
  | none => rw [e] at q; exact q.elim
  | some b =>
    rw [e] at q
    have q' := New.bl q
    rcases sim_in_core hx hy e with ⟨p, xs, h1, h2, h3, h4, h5⟩ | ⟨d, ds, h1, h2, h3, h4, h5⟩ | ⟨i, j, h1, h2, h3⟩
    · exact .inl ⟨p, xs, h1, h2, h3, h4, by simp only [h5]; exact q'⟩
    · exact .inr (.inl ⟨d, ds, h1, h2, h3, h4, by rw [h5]; exact q'⟩)
    · exact .inr (.inr ⟨i, j, h1, h2, by rw [h3]; exact q'⟩)
theorem sim_notIn : SimR2 K (rNotInP K) pNotIn := by
  intro x y H Q px py Fx Fy hx hy q
  unfold pNotIn at q
  cases e : inB px py with
  | none => rw [e] at q; exact q.elim
  | some b =>
    rw [e] at q
    have q' := New.bl q
    rcases sim_in_core hx hy e with ⟨p, xs, h1, h2, h3, h4, h5⟩ | ⟨d, ds, h1, h2, h3, h4, h5⟩ | ⟨i, j, h1, h2, h3⟩
    · exact .inl ⟨p, xs, h1, h2, h3, h4, by simp only [h5]; exact q'⟩
    · exact .inr (.inl ⟨d, ds, h1, h2, h3, h4, by rw [h5]; exact q'⟩)
    · exact .inr (.inr ⟨i, j, h1, h2, by rw [h3]; exact q'⟩)

/-! ### items -/
theorem at_ok {H : Hp} {xs : List PV} {vs : List V} {F : List Addr} {i : Int} {p : PV} (h : RVL K H xs vs F) (e : atI xs i = some p) : ∃ v F1, atI vs i = some v ∧ RV K H p v F1 ∧ ∀ b ∈ F1, b ∈ F := by
  unfold atI at e ⊢
  rw [h.length]
  cases ej : ixN xs.length i with
  | none => rw [ej] at e; cases e
  | some j =>
    rw [ej] at e
    exact h.get e
def pIx : PV → PV → Option PV
  | .lst xs, .int i => atI xs i
  | .frz xs, .int i => atI xs i
  | .tup xs, .int i => atI xs i
  | .str z, .int i => if z.length ≤ sizeLine then (atI z.cps.toList i).map fun c => .str ⟨#[c]⟩ else none
  | _, _ => none
theorem sim_ix : SimB2 K (rIx K) pIx := by
  intro x y H Q px py Fx Fy hx hy q
  unfold pIx at q
  split at q
  · rename_i xs i
    simp only [RV] at hx
    obtain ⟨a, vs, _, rfl, ha, hl, _⟩ := hx
    cases e : atI xs i with
    | none => rw [e] at q; exact q.elim
    | some p =>
      rw [e] at q
      obtain ⟨v, F1, ev, hv, _⟩ := at_ok hl e
      exact .inl ⟨a, vs, i, v, rfl, rv_int hy, SqL.of ha, ev, q v H F1 (fun _ _ e => e) hv⟩
  · rename_i xs i
    simp only [RV] at hx
    obtain ⟨a, vs, rfl, ha, hl, _⟩ := hx
    cases e : atI xs i with
    | none => rw [e] at q; exact q.elim
    | some p =>
      rw [e] at q
      obtain ⟨v, F1, ev, hv, _⟩ := at_ok hl e
      exact .inl ⟨a, vs, i, v, rfl, rv_int hy, ha.toL, ev, q v H F1 (fun _ _ e => e) hv⟩
  · rename_i xs i
    simp only [RV] at hx
    obtain ⟨a, vs, rfl, ha, hl⟩ := hx
    cases e : atI xs i with
    | none => rw [e] at q; exact q.elim
    | some p =>
      rw [e] at q
      obtain ⟨v, F1, ev, hv, _⟩ := at_ok hl e
      exact .inr (.inl ⟨a, vs, i, v, rfl, rv_int hy, ha, ev, q v H F1 (fun _ _ e => e) hv⟩)
  · rename_i z i
    split at q
    · rename_i hz
      cases e : atI z.cps.toList i with
      | none => rw [e] at q; exact q.elim
      | some c =>
        rw [e] at q
        exact .inr (.inr ⟨z, i, c, rv_str hx, rv_int hy, hz, e, q _ H [] (fun _ _ e => e) (by simp [RV])⟩)
    · exact q.elim
  · exact q.elim
/-- the item of a list, for o[i] op= e -/
theorem get_listL : PGet X (rIxL X.K) := by
  intro pins s σ H x y v u Q I rx ry h
  obtain ⟨p, xs, i, z, rfl, rfl, hq, he, q⟩ := h
  cases rx
  obtain ⟨t, rfl⟩ := ry
  obtain ⟨its, r, pl, hz⟩ := I.list hq
  obtain ⟨j, h1, h2, h3, h4, h5⟩ := atI_get he
  obtain ⟨w, ew, rw'⟩ := r.get h2
  have hl := r.length
  have hn := line63
  have fin : EP X pins σ Q w s := ⟨z, H, I, rw', q⟩
  by_cases h0 : 0 ≤ i
  · have hj : i.toNat = j := by
      rw [PySem.seqIndex_of h0 h5] at h1
      exact Option.some.inj h1
    exact wpAny_getItem_list pl.isList h0 (by omega) (by rw [hj]; simpa using ew) fin
  · have hj : (i + (its.toArray.size : Int)).toNat = j := by
      rw [PySem.seqIndex_neg (by omega) h4] at h1
      rw [List.size_toArray, ← hl]
      exact Option.some.inj h1
    exact wpAny_getItem_list_neg pl.isList (by omega) (by rw [List.size_toArray] <;> omega) (by omega) (by rw [hj]; simpa using ew) fin
def pIxL : PV → PV → Option PV
  | .lst xs, .int i => atI xs i
  | _, _ => none
theorem sim_ixL : SimB2 K (rIxL K) pIxL := by
  intro x y H Q px py Fx Fy hx hy q
  unfold pIxL at q
  split at q
  · rename_i xs i
    simp only [RV] at hx
    obtain ⟨a, vs, _, rfl, ha, hl, _⟩ := hx
    cases e : atI xs i with
    | none => rw [e] at q; exact q.elim
    | some p =>
      rw [e] at q
      obtain ⟨v, F1, ev, hv, _⟩ := at_ok hl e
      exact ⟨a, vs, i, v, rfl, rv_int hy, SqL.of ha, ev, q v H F1 (fun _ _ e => e) hv⟩
  · exact q.elim
/-! ### stores -/
theorem RVL.set {H : Hp} : ∀ {xs : List PV} {vs : List V} {F G : List Addr} {j : Nat} {p : PV} {v : V}, RVL K H xs vs F → RV K H p v G → (G ++ F).Nodup → ∃ F', RVL K H (xs.set j p) (vs.set j v) F' ∧ F'.Nodup ∧ ∀ b ∈ F', b ∈ G ++ F
  | [], vs, F, G, j, p, v, h, g, n => by
    simp only [RVL] at h
    obtain ⟨rfl, rfl⟩ := h
    exact ⟨[], by simp [RVL], List.nodup_nil, fun b z => by simp at z⟩
  | x :: xs, vs, F, G, 0, p, v, h, g, n => by
    simp only [RVL] at h
    obtain ⟨w, vr, F1, F2, rfl, h1, h2, rfl⟩ := h
    refine ⟨G ++ F2, by simp only [List.set_cons_zero, RVL]; exact ⟨v, vr, G, F2, rfl, g, h2, rfl⟩, ?_, fun b z => ?_⟩
    · exact n.sublist (List.Sublist.append (List.Sublist.refl _) (List.sublist_append_right _ _))
    · rcases List.mem_append.mp z with z | z
      · exact List.mem_append_left _ z
      · exact List.mem_append_right _ (List.mem_append_right _ z)
  | x :: xs, vs, F, G, j + 1, p, v, h, g, n => by
    simp only [RVL] at h
    obtain ⟨w, vr, F1, F2, rfl, h1, h2, rfl⟩ := h
    have n2 : (F1 ++ (G ++ F2)).Nodup := by
      refine nodup_of_perm ?_ n
      rw [← List.append_assoc, ← List.append_assoc]
      exact List.Perm.append_right _ List.perm_append_comm
    obtain ⟨F', a, b, c⟩ := RVL.set (j := j) h2 g (List.nodup_append.mp n2).2.1
    refine ⟨F1 ++ F', by simp only [List.set_cons_succ, RVL]; exact ⟨w, _, F1, F', rfl, h1, a, rfl⟩, ?_, fun d z => ?_⟩
    · rw [List.nodup_append]
      exact ⟨(List.nodup_append.mp n2).1, b, fun q hq r hr e => (List.nodup_append.mp n2).2.2 q hq r (c r hr) e⟩
    · rcases List.mem_append.mp z with z | z
      · exact List.mem_append_right _ (List.mem_append_left _ z)
      · rcases List.mem_append.mp (c d z) with z | z
        · exact List.mem_append_left _ z
        · exact List.mem_append_right _ (List.mem_append_right _ z)
def pSetL : PV → PV → PV → Option PV
  | .lst xs, .int k, v => (ixN xs.length k).map fun j => .lst (xs.set j v)
  | _, _, _ => none
theorem sim_setL : SimSet K rSetL pSetL := by
  intro o k v H Q p pk pv Fo Fk Fv ho hk hv n q
  unfold pSetL at q
  split at q
  · rename_i xs i
    simp only [RV] at ho
    obtain ⟨a, vs, F', rfl, ha, hl, rfl⟩ := ho
    cases e : ixN xs.length i with
    | none => rw [e] at q; exact q.elim
    | some j =>
      rw [e] at q
      refine ⟨a, vs, i, j, rfl, rv_int hk, ha, by rw [hl.length]; exact e, ?_⟩
      have n1 := n
      rw [List.perm_middle.nodup_iff, List.nodup_cons] at n1
      obtain ⟨na, n2⟩ := n1
      obtain ⟨G, b, c, d⟩ := RVL.set (j := j) hl hv n2
      have naG : a ∉ G := fun z => na (d a z)
      refine q _ (a :: G) ?_ (List.nodup_cons.mpr ⟨naG, c⟩) ⟨fun b o nb e => ?_, fun b z => .inl ?_⟩
      · simp only [RV]
        exact ⟨a, vs.set j v, G, rfl, upd_same, b.keep (keep_upd ha rfl naG), rfl⟩
      · rw [upd_ne]
        · exact e
        · intro z; subst z; exact nb (by simp)
      · rcases List.mem_cons.mp z with z | z
        · subst z; simp
        · rcases List.mem_append.mp (d b z) with z | z
          · exact List.mem_append_left _ z
          · exact List.mem_append_right _ (List.mem_cons_of_mem _ z)
  · exact q.elim

/-! ### slices -/
/-- a part of a slice -/
def ImO (K : PySem.W.Frag) (mg : Str → Option Value) (W : WX) (t : TO) (m : PEnv → EO (Option Int)) : Prop := ∀ σ H Q env F, RE K H env σ F → F.Nodup →
  PostE K mg W σ H F (fun o env' => ∀ H' F', RE K H' env' σ F' → F'.Nodup → Fm F H F' H' → Q o H') (m env) → t σ H Q
def oNone : PEnv → EO (Option Int) := fun env => .ok none env
def oSome (m : EM) : PEnv → EO (Option Int) := fun env => (m env).bind fun x e => match x with
  | .int i => .ok (some i) e
  | _ => .bad
variable {mg : Str → Option Value} {W : WX}
theorem im_oNone : ImO K mg W tNoPart oNone := fun σ H Q env F hr hn hp => hp H F hr hn Fm.refl
theorem im_oSome {t : TE} {m : EM} (h : ImE K mg W t m) : ImO K mg W (tPart t) (oSome m) := by
  intro σ H Q env F hr hn hp
  refine h σ H _ env F hr hn (hp.bind.imp fun x e q v H1 Fv F1 hr1 hx hn1 hf1 => ?_)
  cases x with
  | int i => exact ⟨i, rv_int hx, q H1 F1 hr1 (nd_right hn1) (fm_left hf1)⟩
  | _ => exact q.elim
def SimSl (K : PySem.W.Frag) (r : V → Option Int → Option Int → Hp → VK → Prop) (f : PV → Option Int → Option Int → Option PV) : Prop := ∀ x lo hi H Q px Fx, RV K H px x Fx → NewO K H Q (f px lo hi) → r x lo hi H Q
def eSl (f : PV → Option Int → Option Int → Option PV) (a : GM) (lo hi : PEnv → EO (Option Int)) : EM := fun env => (a env).bind fun x e1 => (lo e1).bind fun l e2 => (hi e2).bind fun h e3 => ofO ((seeG e3 x).bind fun p => f p l h) e3
theorem im_eSl {r : V → Option Int → Option Int → Hp → VK → Prop} {f : PV → Option Int → Option Int → Option PV} {ta : TE} {a : GM} {tl th : TO} {lo hi : PEnv → EO (Option Int)} (hs : SimSl K r f) (ha : ImG K mg W ta a) (hl : ImO K mg W tl lo) (hh : ImO K mg W th hi) : ImE K mg W (tSl r ta tl th) (eSl f a lo hi) := by
  intro σ H Q env F hr hn hp
  refine ha σ H _ env F hr hn (hp.bind.imp fun x e1 q1 v H1 Fv F1 hr1 hx hn1 hf1 => ?_)
  refine hl σ H1 _ e1 F1 hr1 (nd_right hn1) ((q1.bind.later (fm_left hf1)) fun l e2 q2 H2 F2 hr2 hn2 hf2 => ?_)
  have hx2 := hx.keep (keep_ap hn1 hr1.mt hf2)
  refine hh σ H2 _ e2 F2 hr2 hn2 ((q2.bind.later ((fm_left hf1).trans hf2)) fun h e3 q3 H3 F3 hr3 hn3 hf3 => ?_)
  have n2 := nd_later hn1 hx.mt hf2 hn2
  have hx3 := hx2.keep (keep_ap n2 hr2.mt hf3)
  cases ex : seeG e3 x with
  | none => rw [ex] at q3; exact q3.elim
  | some p =>
    rw [ex] at q3
    obtain ⟨Fx, rx⟩ := seeG_ok hr3 hx3 ex
    exact hs v l h H3 Q p Fx rx (fin_new hr3 hn3 (((fm_left hf1).trans hf2).trans hf3) q3)
def pcut {α : Type} (xs : List α) (lo hi : Option Int) : List α := (xs.drop (HT.sIx xs.length 0 lo)).take (HT.sIx xs.length xs.length hi - HT.sIx xs.length 0 lo)
theorem RVL.drop {H : Hp} : ∀ {xs : List PV} {vs : List V} (n : Nat), RVL K H xs vs [] → RVL K H (xs.drop n) (vs.drop n) []
  | xs, vs, 0, h => by simpa using h
  | [], vs, n + 1, h => by simp only [RVL] at h; rw [h.1]; simp [RVL]
  | x :: xs, vs, n + 1, h => by
    simp only [RVL] at h
    obtain ⟨v, vr, F1, F2, rfl, h1, h2, e⟩ := h
    have e' := List.append_eq_nil_iff.mp e.symm
    rw [e'.2] at h2
    simpa using RVL.drop n h2
theorem RVL.take {H : Hp} : ∀ {xs : List PV} {vs : List V} (n : Nat), RVL K H xs vs [] → RVL K H (xs.take n) (vs.take n) []
  | xs, vs, 0, h => by simp [RVL]
  | [], vs, n + 1, h => by simp only [RVL] at h; rw [h.1]; simp [RVL]
  | x :: xs, vs, n + 1, h => by
    simp only [RVL] at h
    obtain ⟨v, vr, F1, F2, rfl, h1, h2, e⟩ := h
    have e' := List.append_eq_nil_iff.mp e.symm
    rw [e'.2] at h2
    rw [e'.1] at h1
    simp only [List.take_succ_cons, RVL]
    exact ⟨v, _, [], [], rfl, h1, RVL.take n h2, rfl⟩
theorem RVL.cut {H : Hp} {xs : List PV} {vs : List V} (lo hi : Option Int) (h : RVL K H xs vs []) : RVL K H (pcut xs lo hi) (cutV vs lo hi) [] := by
  unfold pcut cutV
  rw [h.length]
  exact (h.drop _).take _
def pSl : PV → Option Int → Option Int → Option PV := fun x lo hi => match x with
  | .lst xs => if immL xs = true then some (.lst (pcut xs lo hi)) else none
  | .frz xs => if immL xs = true then some (.lst (pcut xs lo hi)) else none
  | .tup xs => if immL xs = true then some (.tup (pcut xs lo hi)) else none
  | .str z => if z.length ≤ sizeLine then some (.str (cutS z lo hi)) else none
  | _ => none
abbrev rSlP (K : PySem.W.Frag) : V → Option Int → Option Int → Hp → VK → Prop := fun x lo hi H Q => rSlL K x lo hi H Q ∨ (fun x lo hi H Q => rSlA K x lo hi H Q ∨ rSlS x lo hi H Q) x lo hi H Q
theorem sl_P : SlR X (rSlP X.K) := sl_list.or (sl_tupA.or sl_str)
theorem sim_sl : SimSl K (rSlP K) pSl := by
  intro x lo hi H Q px Fx hx q
  unfold pSl at q
  split at q
  · rename_i xs
    split at q
    · rename_i hi'
      simp only [RV] at hx
      obtain ⟨a, vs, _, rfl, ha, hl, _⟩ := hx
      exact .inl ⟨a, vs, rfl, SqL.of ha, New.lst q ((hl.nil_of hi').cut lo hi)⟩
    · exact q.elim
  · rename_i xs
    split at q
    · rename_i hi'
      simp only [RV] at hx
      obtain ⟨a, vs, rfl, ha, hl, _⟩ := hx
      exact .inl ⟨a, vs, rfl, ha.toL, New.lst q ((hl.nil_of hi').cut lo hi)⟩
    · exact q.elim
  · rename_i xs
    split at q
    · rename_i hi'
      simp only [RV] at hx
      obtain ⟨a, vs, rfl, ha, hl⟩ := hx
      refine .inr (.inl ⟨a, vs, rfl, ha, fun e => ?_, fun _ => New.tup q ((hl.nil_of hi').cut lo hi)⟩)
      have ec : pcut xs lo hi = xs := by
        unfold pcut
        rw [hl.length] at e
        rw [e.1, e.2]
        simp
      rw [ec] at q
      exact New.old q (by simp only [RV]; exact ⟨a, vs, rfl, ha, hl.nil_of hi'⟩)
    · exact q.elim
  · rename_i z
    split at q
    · rename_i hz
      exact .inr (.inr ⟨z, rv_str hx, hz, New.str q⟩)
    · exact q.elim
  · exact q.elim

/-! ### builtins -/
theorem rb1 {H : Hp} {p : PV} {xs : List V} (h : RB K H [p] xs) : ∃ v F, xs = [v] ∧ RV K H p v F := by
  simp only [RB] at h
  obtain ⟨v, _, F, rfl, h, rfl⟩ := h
  exact ⟨v, F, rfl, h⟩
theorem rb2 {H : Hp} {p r : PV} {xs : List V} (h : RB K H [p, r] xs) : ∃ v w F G, xs = [v, w] ∧ RV K H p v F ∧ RV K H r w G := by
  simp only [RB] at h
  obtain ⟨v, _, F, rfl, h, w, _, G, rfl, h2, rfl⟩ := h
  exact ⟨v, w, F, G, rfl, h, h2⟩
def lenP : PV → Option Nat
  | .str x => if x.length ≤ sizeLine then some x.length else none
  | .lst xs => some xs.length
  | .frz xs => some xs.length
  | .tup xs => some xs.length
  | _ => none
def pLen : List PV → Option PV
  | [x] => (lenP x).map fun n => .int n
  | _ => none
theorem sim_len : SimL K (fun xs H Q => ∃ x n, xs = [x] ∧ LenV K x H n ∧ Q (.int n) H) pLen := by
  intro xs H Q ps h q
  unfold pLen at q
  split at q
  · rename_i x
    obtain ⟨v, F, rfl, hv⟩ := rb1 h
    cases e : lenP x with
    | none => rw [e] at q; exact q.elim
    | some n =>
      rw [e] at q
      refine ⟨v, n, rfl, ?_, New.int q⟩
      cases x <;> simp only [lenP] at e
      case str y =>
        split at e
        · rename_i hz
          simp only [Option.some.injEq] at e
          rw [rv_str hv]
          exact ⟨hz, e.symm⟩
        · cases e
      case lst ys =>
        simp only [Option.some.injEq] at e
        simp only [RV] at hv
        obtain ⟨a, vs, _, rfl, ha, hl, _⟩ := hv
        exact .inl ⟨vs, SqL.of ha, by rw [hl.length, e]⟩
      case frz ys =>
        simp only [Option.some.injEq] at e
        simp only [RV] at hv
        obtain ⟨a, vs, rfl, ha, hl, _⟩ := hv
        exact .inl ⟨vs, ha.toL, by rw [hl.length, e]⟩
      case tup ys =>
        simp only [Option.some.injEq] at e
        simp only [RV] at hv
        obtain ⟨a, vs, rfl, ha, hl⟩ := hv
        exact .inr ⟨vs, ha, by rw [hl.length, e]⟩
      all_goals cases e
  · exact q.elim
def pTuple : List PV → Option PV
  | [.lst xs] => if immL xs = true then some (.tup xs) else none
  | [.frz xs] => if immL xs = true then some (.tup xs) else none
  | [.tup xs] => if immL xs = true then some (.tup xs) else none
  | _ => none
theorem sim_tuple : SimL K (fun xs H Q => ∃ p ys, xs = [.ref p] ∧ ((SqL K H p ys ∧ ∀ l, H l = none → Q (.ref l) (upd H l (.tup ys))) ∨ (SqT K H p ys ∧ Q (.ref p) H))) pTuple := by
  intro xs H Q ps h q
  unfold pTuple at q
  split at q
  · rename_i ys
    split at q
    · rename_i hi
      obtain ⟨v, F, rfl, hv⟩ := rb1 h
      simp only [RV] at hv
      obtain ⟨a, vs, _, rfl, ha, hl, _⟩ := hv
      exact ⟨a, vs, rfl, .inl ⟨SqL.of ha, New.tup q (hl.nil_of hi)⟩⟩
    · exact q.elim
  · rename_i ys
    split at q
    · rename_i hi
      obtain ⟨v, F, rfl, hv⟩ := rb1 h
      simp only [RV] at hv
      obtain ⟨a, vs, rfl, ha, hl, _⟩ := hv
      exact ⟨a, vs, rfl, .inl ⟨ha.toL, New.tup q (hl.nil_of hi)⟩⟩
    · exact q.elim
  · rename_i ys
    split at q
    · rename_i hi
      obtain ⟨v, F, rfl, hv⟩ := rb1 h
      have hv' := hv
      simp only [RV] at hv
      obtain ⟨a, vs, rfl, ha, hl⟩ := hv
      exact ⟨a, vs, rfl, .inr ⟨ha, New.old q (by simp only [RV]; exact ⟨a, vs, rfl, ha, hl.nil_of hi⟩)⟩⟩
    · exact q.elim
  · exact q.elim
def pList : List PV → Option PV
  | [.lst xs] => if immL xs = true then some (.lst xs) else none
  | [.frz xs] => if immL xs = true then some (.lst xs) else none
  | [.tup xs] => if immL xs = true then some (.lst xs) else none
  | _ => none
theorem sim_list : SimL K (fun xs H Q => ∃ p ys, xs = [.ref p] ∧ (SqL K H p ys ∨ SqT K H p ys) ∧ ∀ l, H l = none → Q (.ref l) (upd H l (.lst ys))) pList := by
  intro xs H Q ps h q
  unfold pList at q
  split at q
  · rename_i ys
    split at q
    · rename_i hi
      obtain ⟨v, F, rfl, hv⟩ := rb1 h
      simp only [RV] at hv
      obtain ⟨a, vs, _, rfl, ha, hl, _⟩ := hv
      exact ⟨a, vs, rfl, .inl (SqL.of ha), New.lst q (hl.nil_of hi)⟩
    · exact q.elim
  · rename_i ys
    split at q
    · rename_i hi
      obtain ⟨v, F, rfl, hv⟩ := rb1 h
      simp only [RV] at hv
      obtain ⟨a, vs, rfl, ha, hl, _⟩ := hv
      exact ⟨a, vs, rfl, .inl ha.toL, New.lst q (hl.nil_of hi)⟩
    · exact q.elim
  · rename_i ys
    split at q
    · rename_i hi
      obtain ⟨v, F, rfl, hv⟩ := rb1 h
      simp only [RV] at hv
      obtain ⟨a, vs, rfl, ha, hl⟩ := hv
      exact ⟨a, vs, rfl, .inr ha, New.lst q (hl.nil_of hi)⟩
    · exact q.elim
  · exact q.elim
def pAbs : List PV → Option PV
  | [.int i] => some (.int (if i < 0 then -i else i))
  | _ => none
theorem sim_abs : SimL K (fun xs H Q => ∃ i, xs = [.int i] ∧ Q (.int (if i < 0 then -i else i)) H) pAbs := by
  intro xs H Q ps h q
  unfold pAbs at q
  split at q
  · rename_i i
    obtain ⟨v, F, rfl, hv⟩ := rb1 h
    exact ⟨i, by rw [rv_int hv], New.int q⟩
  · exact q.elim
def pInt : List PV → Option PV
  | [.int i] => some (.int i)
  | [.bl b] => some (.int (if b then 1 else 0))
  | [.str a] => if a.length ≤ 640 then (PySem.intText? a).map .int else none
  | _ => none
abbrev rIntP : List V → Hp → VK → Prop := fun xs H Q => (fun xs H Q => (∃ i, xs = [.int i] ∧ Q (.int i) H) ∨ ∃ k, xs = [.bl k] ∧ Q (.int (if k then 1 else 0)) H) xs H Q ∨ (fun xs H Q => ∃ a n, xs = [.str a] ∧ PySem.intText? a = some n ∧ a.length ≤ 640 ∧ Q (.int n) H) xs H Q
theorem callR_or {f : Value} {r1 r2 : List V → Hp → VK → Prop} (h1 : CallR X f r1) (h2 : CallR X f r2) : CallR X f (fun xs H Q => r1 xs H Q ∨ r2 xs H Q) := by
  intro pins s σ H xs us Q I r h
  rcases h with h | h
  · exact h1 pins s σ H xs us Q I r h
  · exact h2 pins s σ H xs us Q I r h
theorem call_intP : CallR X (.type "int") rIntP := callR_or call_int1 call_int_str
theorem sim_int : SimL K rIntP pInt := by
  intro xs H Q ps h q
  unfold pInt at q
  split at q
  · rename_i i
    obtain ⟨v, F, rfl, hv⟩ := rb1 h
    exact .inl (.inl ⟨i, by rw [rv_int hv], New.int q⟩)
  · rename_i b
    obtain ⟨v, F, rfl, hv⟩ := rb1 h
    exact .inl (.inr ⟨b, by rw [rv_bl hv], New.int q⟩)
  · rename_i a
    obtain ⟨v, F, rfl, hv⟩ := rb1 h
    by_cases hz : a.length ≤ 640
    · rw [if_pos hz] at q
      cases e : PySem.intText? a with
      | none => rw [e] at q; exact q.elim
      | some n =>
        rw [e] at q
        simp only [RV] at hv
        exact .inr ⟨a, n, by rw [hv.1], e, hz, New.int q⟩
    · rw [if_neg hz] at q; exact q.elim
  · exact q.elim
def pOrd : List PV → Option PV
  | [.str a] => if a.length = 1 then some (.int (a.cps.getD 0 0 : Nat)) else none
  | _ => none
theorem sim_ord : SimL K (fun xs H Q => ∃ x, xs = [.str x] ∧ x.length = 1 ∧ Q (.int (x.cps.getD 0 0 : Nat)) H) pOrd := by
  intro xs H Q ps h q
  unfold pOrd at q
  split at q
  · rename_i a
    obtain ⟨v, F, rfl, hv⟩ := rb1 h
    by_cases hz : a.length = 1
    · rw [if_pos hz] at q
      simp only [RV] at hv
      exact ⟨a, by rw [hv.1], hz, New.int q⟩
    · rw [if_neg hz] at q; exact q.elim
  · exact q.elim
/-- isinstance upon built-in types -/
def tyName : PV → Option String
  | .non => some "NoneType"
  | .bl _ => some "bool"
  | .int _ => some "int"
  | .str _ => some "str"
  | .tup _ => some "tuple"
  | .lst _ => some "list"
  | .frz _ => some "list"
  | .dct _ => some "dict"
  | _ => none
theorem tyName_ok {H : Hp} {x : PV} {v : V} {F : List Addr} {n : String} (h : RV K H x v F) (e : tyName x = some n) : TyX K H v (.type n) := by
  cases x <;> simp only [tyName, Option.some.injEq, reduceCtorEq] at e <;> subst e
  case non => rw [rv_non h]; exact .base .non
  case bl => rw [rv_bl h]; exact .base (.bl _)
  case int => rw [rv_int h]; exact .base (.int _)
  case str => rw [rv_str h]; exact .base (.str _)
  case tup xs =>
    simp only [RV] at h
    obtain ⟨a, vs, rfl, ha, _⟩ := h
    rcases ha with ha | ⟨o, its, n, hk, hc, _⟩
    · rcases ha with ha | ⟨o, ha⟩
      · exact .base (.tup ha)
      · exact .fTuple ha
    · exact .kTuple hk hc
  case lst xs =>
    simp only [RV] at h
    obtain ⟨a, vs, _, rfl, ha, _⟩ := h
    exact .base (.lst ha)
  case frz xs =>
    simp only [RV] at h
    obtain ⟨a, vs, rfl, ha, _⟩ := h
    rcases ha with ⟨o, ha⟩ | ⟨o, its, n, hk, hc, _⟩
    · exact .base (.frz ha)
    · exact .kList hk hc
  case dct kvs =>
    simp only [RV] at h
    obtain ⟨a, ws, _, rfl, ha, _⟩ := h
    rcases ha with ⟨vs, ha, _⟩ | ⟨vs, ha, _⟩
    · exact .base (.dK ha)
    · exact .base (.dT ha)
def isT (a b : String) : Bool := a == b || (a == "bool" && b == "int")
def tyKnown (s : String) : Bool := s == "NoneType" || s == "bool" || s == "int" || s == "str" || s == "tuple" || s == "list" || s == "dict"
theorem kitB_known {a b : String} (ha : tyKnown a = true) (hb : tyKnown b = true) : kitB a b = some (isT a b) := by
  simp only [tyKnown, Bool.or_eq_true, beq_iff_eq] at ha hb
  rcases ha with (((((rfl | rfl) | rfl) | rfl) | rfl) | rfl) | rfl <;> rcases hb with (((((rfl | rfl) | rfl) | rfl) | rfl) | rfl) | rfl <;> decide +kernel
def pIsi : List PV → Option PV
  | [x, .ty n] => (tyName x).bind fun a => if (tyKnown a && tyKnown n) = true then some (.bl (isT a n)) else none
  | _ => none
theorem sim_isi : SimL K (rIsi K) pIsi := by
  intro xs H Q ps h q
  unfold pIsi at q
  split at q
  · rename_i x n
    obtain ⟨v, w, F, G, rfl, hv, hw⟩ := rb2 h
    cases e : tyName x with
    | none => rw [e] at q; exact q.elim
    | some a =>
      rw [e] at q
      simp only [Option.bind_some] at q
      split at q
      · rename_i hk
        rw [Bool.and_eq_true] at hk
        simp only [RV] at hw
        exact ⟨v, w, .type a, .type n, isT a n, rfl, by rw [hw.1]; exact .ty n, tyName_ok hv e, kit_ty (kitB_known hk.1 hk.2), New.bl q⟩
      · exact q.elim
  · exact q.elim
theorem im_eTy {n : String} : ImE K mg W (tC (.ty n)) (eC (.ty n)) := fun σ H Q env F hr hn hp => hp (.ty n) H [] F hr (by simp [RV]) hn Fm.refl

/-! ### methods of lists -/
theorem rvl1 {H : Hp} {p : PV} {xs : List V} {F : List Addr} (h : RVL K H [p] xs F) : ∃ v, xs = [v] ∧ RV K H p v F := by
  simp only [RVL] at h
  obtain ⟨v, _, F1, F2, rfl, h, ⟨rfl, rfl⟩, rfl⟩ := h
  exact ⟨v, rfl, by simpa using h⟩
def pAppend : PV → List PV → Option (PV × PV)
  | .lst xs, [y] => if xs.length < sizeLine then some (.non, .lst (xs ++ [y])) else none
  | _, _ => none
theorem sim_append : SimM K rAppend pAppend := by
  intro x vs H Q p xs Fx Fa hx ha n q
  unfold pAppend at q
  split at q
  · rename_i xs y
    split at q
    · rename_i hz
      simp only [RV] at hx
      obtain ⟨a, ws, F', rfl, hH, hl, rfl⟩ := hx
      obtain ⟨v, rfl, hv⟩ := rvl1 ha
      refine ⟨a, ws, v, rfl, rfl, hH, by rw [hl.length]; exact hz, ?_⟩
      have n1 := n
      rw [List.perm_middle.nodup_iff, List.nodup_cons] at n1
      obtain ⟨na, n2⟩ := n1
      rw [List.mem_append, not_or] at na
      refine q .non _ [] (a :: (F' ++ Fa)) ?_ (by simp [RV]) ?_ ⟨fun b o nb e => ?_, fun b z => .inl ?_⟩
      · simp only [RV]
        exact ⟨a, ws ++ [v], F' ++ Fa, rfl, upd_same, ((hl.append (RVL.one hv)).keep (keep_upd hH rfl (by rw [List.mem_append, not_or]; exact ⟨na.2, na.1⟩))), rfl⟩
      · rw [List.nil_append, List.nodup_cons, List.mem_append, not_or]
        exact ⟨⟨na.2, na.1⟩, nodup_of_perm List.perm_append_comm n2⟩
      · rw [upd_ne]
        · exact e
        · intro z; subst z; exact nb (by simp)
      · simp only [List.nil_append, List.mem_cons, List.mem_append] at z ⊢
        rcases z with z | z | z
        · exact .inr (.inl z)
        · exact .inr (.inr z)
        · exact .inl z
    · exact q.elim
  · exact q.elim
def pExtend : PV → List PV → Option (PV × PV)
  | .lst xs, [.lst ys] => if xs.length + ys.length ≤ sizeLine ∧ immL ys = true then some (.non, .lst (xs ++ ys)) else none
  | _, _ => none
theorem sim_extend : SimMB K rExtend pExtend := by
  intro x vs H Q p xs Fx hx n ha q
  unfold pExtend at q
  split at q
  · rename_i xs ys
    split at q
    · rename_i hz
      simp only [RV] at hx
      obtain ⟨a, ws, F', rfl, hH, hl, rfl⟩ := hx
      obtain ⟨v, F, rfl, hv⟩ := rb1 ha
      simp only [RV] at hv
      obtain ⟨b, us, _, rfl, hB, hm, _⟩ := hv
      refine ⟨a, b, ws, us, rfl, rfl, hH, hB, by rw [hl.length, hm.length]; exact hz.1, ?_⟩
      obtain ⟨na, n2⟩ := List.nodup_cons.mp n
      refine q .non _ [] (a :: F') ?_ (by simp [RV]) (by simpa using n) ⟨fun b o nb e => ?_, fun b z => .inl (by simpa using z)⟩
      · simp only [RV]
        exact ⟨a, ws ++ us, F', rfl, upd_same, by simpa using (hl.append (hm.nil_of hz.2)).keep (keep_upd hH rfl (by simpa using na)), rfl⟩
      · rw [upd_ne]
        · exact e
        · intro z; subst z; exact nb (by simp)
    · exact q.elim
  · exact q.elim
end
end PVL

/-! E1: own exception classes below ValueError whose __init__ says super().__init__(text) and then stores its parameters. -/
namespace PySem
namespace SXE
open PySem.W PySem.Calls PyProof.Rows
def sxSup (p0 p1 p2 p3 p4 p5 : Pos) (j : Nat) (msg : Str) : Stmt := .Expr (.Call (.Attribute (.Call (.Name "super" p0) [] [] p1) "__init__" p2) [.Constant (.str msg) j p3] [] p4) p5
def sxFld (q1 q2 q3 q4 : Pos) (f : Str) : Stmt := .Assign [.Attribute (.Name "self" q1) f q2] (.Name f q3) q4
/-- the call super().__init__(text) is read as a method call (its name stands on the call's own line) -/
def sxPlain (p0 p1 p2 p3 p4 : Pos) (j : Nat) (msg : Str) : Prop := ∀ env : Env, eval (.Call (.Attribute (.Call (.Name "super" p0) [] [] p1) "__init__" p2) [.Constant (.str msg) j p3] [] p4) env = (do
      let ov ← attributeBase (.Call (.Name "super" p0) [] [] p1) "__init__" env (eval (.Call (.Name "super" p0) [] [] p1) env)
      standAt p2.atName
      let (f, first) ← holding [ov] (getMethod ov "__init__" (do return (← importBound (.Call (.Name "super" p0) [] [] p1) env).getD true))
      callWith p4 f first (backTo p4 (starEach [.Constant (.str msg) j p3] env)) [])
/-- what the written part says of the class x at C, its __init__ at fI (its names fs, self ahead), its cell, its code -/
structure SxTxt (prog : Program) (K : Frag) (mg : Str → Option Value) (x : Str) (C fI : Addr) (ps : List Str) : Prop where
  gC : mg x = some (.ref C)
  cls : ∃ nm q N bs bm sn sub ab col dd k0 k1 k2 k3 k5, K.lookup C = some (excClassObj nm q C N bs bm true sn sub ab col dd k0 k1 k2 k3 k5 "ValueError.__new__") ∧ PySem.HandSPX.refsVE bm = true
  sa : findIn K (.ref C) "__setattr__" = some (some (.builtin "object.__setattr__"))
  ga : findIn K (.ref C) "__getattribute__" = some (some (.builtin "BaseException.__getattribute__"))
  gg : findIn K (.ref C) "__getattr__" = some none
  noF : ∀ f ∈ ps, findIn K (.ref C) f = some none
  iC : findIn K (.ref C) "__init__" = some (some (.ref fI))
  tC : typeIn K (.ref fI) = some (.type "function")
  kC : keepIn K (.ref C) = true
  exC : subIn K (.ref C) (.type "BaseException") = some true
  veC : subIn K (.ref C) (.type "ValueError") = some true
  tyC : typeIn K (.ref C) = some (.type "type")
  hdC : hasDictIn K C = true
  slf : mroIn K C (.ref C) = some true
  opq : nsIn K cStatics "thirdparty.any" = some none
  sup : ks_superIn K C C "__init__" = some (some (.builtin "ValueError.__init__"))
  gsup : mg "super" = none
  tops : (prog.main.scope.names.lookup ("super" : Str)).isSome = false
  fn : ∃ (oc : Value) (od : Option Addr) (doc pm : Value) (an : Option Addr) (cda : Addr) (ct : Value) (osl : Array (Option Value)) (cc : Addr) (qual : Str) (params : Arguments) (body : List Stmt) (scope : Scope),
    K.lookup fI = some ⟨oc, od, .func (ksFn "__init__" qual params body scope .none .none doc pm an (.ref cda) ct cc), osl⟩ ∧ codeIn K (.ref cda) qual = true ∧
    (∃ ccl cdd vs ccs file tf, K.lookup cda = some ⟨ccl, cdd, .fields vs, ccs⟩ ∧ vs[2]? = some (.str file tf) ∧ ((prog.main.file : Str) == file) = true) ∧
    (∃ cl cld csl, K.lookup cc = some ⟨cl, cld, .cell (some (.ref C)), csl⟩) ∧
    (params.posonlyargs ++ params.args).head?.map (·.arg) = some "self" ∧
    (∃ p0 p1 p2 p3 p4 p5 j msg, ∃ qs : List (Pos × Pos × Pos × Pos), body = sxSup p0 p1 p2 p3 p4 p5 j msg :: (ps.zip qs).map (fun z => sxFld z.2.1 z.2.2.1 z.2.2.2.1 z.2.2.2.2 z.1) ∧ qs.length = ps.length ∧ sxPlain p0 p1 p2 p3 p4 j msg) ∧
    scope.names.lookup ("super" : Str) = some .globalImplicit ∧ scope.names.lookup ("__class__" : Str) = some .free ∧ scope.names.lookup ("self" : Str) = some .local ∧ (∀ f ∈ ps, scope.names.lookup f = some .local) ∧
    (∀ y ∈ scope.names, y.2 ≠ .cell) ∧ scope.isCoroutine = false ∧ scope.isGenerator = false ∧ scope.kind = .function ∧
    (∀ (s : Shared) (us : List Value), us.length = ps.length + 1 → BindsTo s (ksFn "__init__" qual params body scope .none .none doc pm an (.ref cda) ct cc) ⟨us, []⟩ ((("self" : Str) :: ps).zip us))

section
variable {prog : Program} {w : World} {A : Around} {E : Value → Shared → Prop} {s : Shared} {K : Frag} {mg mb : Str → Option Value} {x : Str} {C fI : Addr} {ps : List Str}
/-- ValueError.__init__ bound to the exception, called -/
theorem sx_call_bw {h : Heap} {g : Array GenState} {d : Drawn} {t : Nat} {os : OsState} {nm q : Str} {N : Addr} {bs bm : List Value} {hdct : Bool} {sn : List Str} {sub : List Value} {ab : Bool} {col : Option Bool} {dd : Option Addr} {k0 k1 k2 k3 k5 : Option Value}
    {u e t0 : Addr} {rest : List Value} {Q : Value → Shared → Prop}
    (hC : h.get? C = some (excClassObj nm q C N bs bm hdct sn sub ab col dd k0 k1 k2 k3 k5 "ValueError.__new__")) (he : h.get? e = some (HandSPX.excO C t0)) (hu : h.get? u = some (kxs_mw "ValueError.__init__" e)) (hrest : rest.length ≤ sizeLine)
    (hq : ∀ h' t1, (∀ b o, b ≠ e → h.get? b = some o → h'.get? b = some o) → h'.get? e = some (HandSPX.excO C t1) → Q .none ⟨h', g, d, t, os⟩) :
    wpAny (model prog w) A (call (.ref u) rest) Q E ⟨h, g, d, t, os⟩ := by
  refine wpAny_call (codeAny_of_tree ?_)
  show wpAny _ A.in1 (callAny (.ref u) ⟨rest, []⟩) _ _ _
  simp only [callAny]
  refine wpAny_bind (wpAny_load hu ?_)
  simp only [kxs_mw, show (Value.type "method-wrapper" == Value.type "method" || Value.type "method-wrapper" == Value.type "builtin_function_or_method" || Value.type "method-wrapper" == Value.type "method-wrapper") = true by decide, if_true]
  refine W.KFB.if_so (by decide) ?_
  refine wpAny_bind (check_bound_init F.excBase_ValueError.toExcCallFacts hC he rfl ?_)
  refine wpAny_bind (wpAny_pure (wpAny_pure ?_))
  refine ⟨Code.quiet_builtin _ (by decide +kernel), codeAny_builtin F.excBase_ValueError.initEntry ?_⟩
  rw [Around.under_plainId F.excBase_ValueError.init.plain _]
  wp_walk
  refine hq _ h.objs.size (fun b o hb ho => ?_) ?_
  · rw [Heap.get?_update_other _ _ (Ne.symm hb)]
    exact Heap.get?_push_of_some _ ho
  · rw [Heap.get?_update_self _ (Heap.get?_push_of_some _ he) rfl]
    rfl
theorem sx_sup_stmt {body : List Stmt} {p0 p1 p2 p3 p4 p5 : Pos} {j : Nat} {msg : Str} {qual : Str} {scope : Scope} {L e t0 cda cc : Addr} {m : Str → Option Value} {oc ccl cl : Value} {od cdd cld : Option Addr} {osl ccs csl : Array (Option Value)} {fd : FuncData} {vs : Array Value} {file : Str} {tf : Tok}
    {hh : Heap} {g : Array GenState} {d : Drawn} {t : Nat} {os : OsState} {Q : Flow → Shared → Prop} (hpl : sxPlain p0 p1 p2 p3 p4 j msg) (T : SxTxt prog K mg x C fI ps) (X : K.In hh) (hg : hh.Ns mainGlobals mg) (hb : hh.Ns builtinsNs mb) (hbb : mb "super" = bootBuiltins "super")
    (hm : hh.Ns L m) (hs : m "self" = some (.ref e)) (he : hh.get? e = some (HandSPX.excO C t0)) (hne : e ≠ C) (hLe : L ≠ e)
    (hf : K.lookup fI = some ⟨oc, od, .func fd, osl⟩) (hpar : (fd.params.posonlyargs ++ fd.params.args).head?.map (·.arg) = some "self")
    (hcode : K.lookup cda = some ⟨ccl, cdd, .fields vs, ccs⟩) (hvs : vs[2]? = some (.str file tf)) (hfile : ((prog.main.file : Str) == file) = true)
    (hcell : K.lookup cc = some ⟨cl, cld, .cell (some (.ref C)), csl⟩)
    (hks : scope.names.lookup ("super" : Str) = some .globalImplicit) (hkc : scope.names.lookup ("__class__" : Str) = some .free) (hka : scope.names.lookup ("self" : Str) = some .local) (hk : scope.kind = .function)
    (hq : ∀ h' tk' t1, (∀ b o, b ≠ e → hh.get? b = some o → h'.get? b = some o) → h'.get? e = some (HandSPX.excO C t1) → Q .next ⟨h', g, d, tk', os⟩) :
    _root_.PySem.wpAt (model prog w) A (.func body (ksEnv qual scope L fI (.ref cda) cc)) (exec (sxSup p0 p1 p2 p3 p4 p5 j msg) (ksEnv qual scope L fI (.ref cda) cc)) Q E ⟨hh, g, d, t, os⟩ := by
  obtain ⟨nm, q, N, bs, bm, sn, sub, ab, col, dd, k0, k1, k2, k3, k5, hC, hbm⟩ := T.cls
  have hcl : clsIn K C = some { name := nm, bases := bs, mro := .ref C :: bm, ns := N, qualname := q, hasDict := true, slotNames := sn, subclasses := sub, abstract := ab, collection := col, hasDel := false } := by unfold clsIn; rw [hC] <;> rfl
  obtain ⟨ar, har, hara⟩ : ∃ ar, (fd.params.posonlyargs ++ fd.params.args).head? = some ar ∧ ar.arg = "self" := by
    cases z : (fd.params.posonlyargs ++ fd.params.args).head? with
    | none => rw [z] at hpar; cases hpar
    | some ar => rw [z] at hpar; exact ⟨ar, rfl, Option.some.inj hpar⟩
  have hint : interactive (ksEnv qual scope L fI (.ref cda) cc) = false := by simp [interactive, hk]
  unfold sxSup
  refine ks_wpAt_Expr_any (ks_wpAt_MethodCall ?_ (hpl _)) hint rfl
  refine ks_wpAt_super_base (env := ksEnv qual scope L fI (.ref cda) cc) hks hkc (by decide) rfl (X _ _ hf) rfl har rfl (X _ _ hcode) rfl hvs hfile T.tops ?_
  refine ks_loadName_global hk hks (loadGlobal_builtin (env := ksEnv qual scope L fI (.ref cda) cc) hg T.gsup hb (hbb.trans (by decide +kernel)) ⟨rfl, ?_⟩)
  refine wpAny_loadName_free hk hkc rfl ⟨_, X _ _ hcell, rfl⟩ ?_
  rw [hara]
  refine wpAny_loadName_local hk hka hm hs ?_
  refine ks_wpAny_isType_cls (X _ _ hC) rfl ⟨rfl, ?_⟩
  refine ks_wpAny_call_super (X _ _ hC) rfl he rfl (fun c z => by cases z) (looks_mroIn X T.slf) (fun h1 e1 k1 => ?_)
  have X1 : K.In h1 := X.keeps k1
  have he1 := k1 _ _ he
  have I1 : InstAt h1 e (HandSPX.excO C t0) C none := ⟨he1, rfl, rfl, trivial⟩
  have hI : Looks (model prog w) h1 (isInstance (.ref e) (.type "ValueError")) true := I1.type.andThen (looks_subIn X1 T.veC)
  have hm' := T.sup
  unfold ks_superIn at hm'
  rw [hcl] at hm'
  refine kxs_getMethod kxs_ValueError e1 (looks_opaque X1 T.opq) (l₀ := .ref C :: bm) ?_ rfl X1 hm' hI hne (by decide) ?_
  · exact fun A Q E s k q => wpAny_bind ((looks_clsIn X1 hcl) A _ E s k (wpAny_pure q))
  · have hu : (h1.push (kxs_mw "ValueError.__init__" e)).get? h1.objs.size = some (kxs_mw "ValueError.__init__" e) := Heap.get?_push_at rfl rfl
    refine kxs_callWith (i := "ValueError.__init__") (x := e) rfl ?_
    refine Calls.evalArgs_plain ?_
    show wpAny _ _ (spliced ((false, eval (.Constant (.str msg) j p3) (ksEnv qual scope L fI (.ref cda) cc)) :: [])) _ _ _
    refine Calls.spliced_cons (Calls.Constant_str (Calls.spliced_nil ⟨hu, ?_⟩))
    have k2 : ∀ b o, hh.get? b = some o → (h1.push (kxs_mw "ValueError.__init__" e)).get? b = some o := fun b o z => Heap.get?_push_of_some _ (k1 b o z)
    refine sx_call_bw ((X.keeps k2) _ _ hC) (k2 _ _ he) hu (by show 1 ≤ sizeLine; decide) fun h' t1 kk hx => ?_
    exact hq h' _ t1 (fun b o hb z => kk b o hb (k2 b o z)) hx
end
end SXE
end PySem

/-! E2: the own exception is made. -/
namespace PySem
namespace SXE
open PySem.W PySem.Calls PyProof.Rows
abbrev exF (C t1 : Addr) (d : Option Addr) : Obj := { cls := .ref C, dict := d, data := .fields #[.ref t1, .none, .none, .none, .bool false, .none] }
/-- the exception at e, what it has been given so far -/
def ExS (C e n0 : Nat) (acc : List (Str × Value)) (h : Heap) : Prop :=
  ∃ t1, (acc = [] ∧ h.get? e = some (exF C t1 none)) ∨ ∃ dx, acc ≠ [] ∧ n0 ≤ dx ∧ dx ≠ e ∧ h.get? e = some (exF C t1 (some dx)) ∧ ∃ mA, h.Ns1 dx mA ∧ ∀ f, mA f = acc.lookup f
theorem lput {β : Type} (f g : Str) (y : β) (fs : List (Str × β)) : ((f, y) :: fs).lookup g = if g = f then some y else fs.lookup g := by
  by_cases h : g = f
  · subst h
    simp [List.lookup]
  · have e : (g == f) = false := by simpa using h
    rw [if_neg h]
    simp [List.lookup, e]
theorem look_in : ∀ (l : List (Str × Value)) (y : Str) (v : Value), (l.map (·.1)).Nodup → (y, v) ∈ l → l.lookup y = some v := by
  intro l y v nd hmem
  induction l with
  | nil => cases hmem
  | cons p r ih =>
    obtain ⟨a, b⟩ := p
    rw [List.map_cons, List.nodup_cons] at nd
    rw [lput]
    rcases List.mem_cons.mp hmem with e | e
    · cases e
      rw [if_pos rfl]
    · rw [if_neg, ih nd.2 e]
      rintro rfl
      exact nd.1 (List.mem_map.mpr ⟨_, e, rfl⟩)
theorem look_rev (l : List (Str × Value)) (y : Str) (v : Value) (nd : (l.map (·.1)).Nodup) (mem : (y, v) ∈ l) : l.reverse.lookup y = some v := by
  refine look_in _ _ _ ?_ (List.mem_reverse.mpr mem)
  rw [List.map_reverse]
  exact (List.reverse_perm _).nodup_iff.mpr nd
theorem within_acc : ∀ (acc : List (Str × Value)) (mA : Str → Option Value), (∀ f, mA f = acc.lookup f) → Within mA (acc.map (·.1)) := by
  intro acc mA h y hy
  rw [h y] at hy
  clear h
  induction acc with
  | nil => exact absurd rfl hy
  | cons p r ih =>
    obtain ⟨a, b⟩ := p
    rw [lput] at hy
    by_cases e : y = a
    · exact e ▸ List.mem_cons_self ..
    · rw [if_neg e] at hy
      exact List.mem_cons_of_mem _ (ih hy)
section
variable {prog : Program} {w : World} {A : Around} {E : Value → Shared → Prop} {K : Frag} {mg mb : Str → Option Value} {x : Str} {C fI : Addr} {ps : List Str}
theorem sx_store {hh hp : Heap} {g : Array GenState} {d : Drawn} {t : Nat} {os : OsState} {e L : Addr} {f : Str} {v : Value} {acc : List (Str × Value)} {m : Str → Option Value} {Q : Unit → Shared → Prop}
    (T : SxTxt prog K mg x C fI ps) (X : K.In hp) (he : hp.objs.size ≤ e) (hLe : L ≠ e) (hm : hh.Ns L m) (hL : e < L) (kp : ∀ b o, hp.get? b = some o → hh.get? b = some o) (hf : f ∈ ps) (hz : acc.length ≤ 900)
    (S : ExS C e (L + 1) acc hh)
    (hq : ∀ h' tk', h'.Ns L m → (∀ b o, hp.get? b = some o → h'.get? b = some o) → ExS C e (L + 1) ((f, v) :: acc) h' → Q () ⟨h', g, d, tk', os⟩) :
    wpAny (model prog w) A (setAttr (.ref e) f v) Q E ⟨hh, g, d, t, os⟩ := by
  obtain ⟨nm, q, N, bs, bm, sn, sub, ab, col, dd, k0, k1, k2, k3, k5, hC, hbm⟩ := T.cls
  have hcl : clsIn K C = some { name := nm, bases := bs, mro := .ref C :: bm, ns := N, qualname := q, hasDict := true, slotNames := sn, subclasses := sub, abstract := ab, collection := col, hasDel := false } := by unfold clsIn; rw [hC] <;> rfl
  have XX : K.In hh := X.keeps kp
  have hrf : PySem.HandSPX.refsVE (.ref C :: bm) = true := hbm
  have nb : ∀ {b o}, hp.get? b = some o → b ≠ e := fun z => Nat.ne_of_lt (Nat.lt_of_lt_of_le (Heap.lt_size z) he)
  have hLs : L < hh.objs.size := hm.lt
  obtain ⟨t1, S⟩ := S
  rcases S with ⟨ea, hx⟩ | ⟨dx, hac, hdx, hde, hx, mA, hns, hmA⟩
  · refine set_plain XX (ox := exF C t1 none) (od := none) ⟨hx, rfl, rfl, trivial⟩ T.sa ?_
    refine PySem.HandSPX.exc_osa XX hx hcl hrf rfl (T.noF f hf) (fun h' tk' dx k dn dne hx' hn => ?_)
    refine hq h' tk' ?_ (fun b o z => k b o (nb z) (kp b o z)) ⟨t1,   .inr ⟨dx, List.cons_ne_nil _ _, Nat.lt_of_lt_of_le hLs dn, dne, hx', _, hn, fun y => ?_⟩⟩
    · obtain ⟨oL, es, ep, a1, a2⟩ := hm
      exact ⟨oL, es, ep, k _ _ hLe a1, a2⟩
    · rw [lput, ea]
      rfl
  · have hLd : L ≠ dx := Nat.ne_of_lt hdx
    have hw := within_acc acc mA hmA
    obtain ⟨oD, _, _, hoD, _, _⟩ := hns.count hw
    refine set_plain XX (ox := exF C t1 (some dx)) (od := some oD) ⟨hx, rfl, rfl, hoD⟩ T.sa ?_
    refine PySem.OEX.osa_old XX hx hns hw (by rw [List.length_map]; omega) hcl hrf rfl (T.noF f hf) (fun h' tk' k hn => ?_)
    refine hq h' tk' ?_ (fun b o z => k b o (Nat.ne_of_lt (Nat.lt_of_lt_of_le (Heap.lt_size z) (Nat.le_trans he (Nat.le_of_lt (Nat.lt_of_lt_of_le hL (Nat.le_of_lt hdx)))))) (kp b o z)) ⟨t1, .inr ⟨dx, List.cons_ne_nil _ _, hdx, hde, k _ _ (Ne.symm hde) hx, _, hn, fun y => ?_⟩⟩
    · obtain ⟨oL, es, ep, a1, a2⟩ := hm
      exact ⟨oL, es, ep, k _ _ hLd a1, a2⟩
    · rw [lput]
      by_cases z : y = f
      · simp [z]
      · simp [z, hmA]
theorem sx_flds {hp : Heap} {g : Array GenState} {d : Drawn} {os : OsState} {e L cc : Addr} {m : Str → Option Value} {qual : Str} {scope : Scope} {cdv : Value} {Q : Flow → Shared → Prop}
    (T : SxTxt prog K mg x C fI ps) (X : K.In hp) (he : hp.objs.size ≤ e) (hL : e < L) (hs : m "self" = some (.ref e))
    (hka : scope.names.lookup ("self" : Str) = some .local) (hkf : ∀ f ∈ ps, scope.names.lookup f = some .local) (hk : scope.kind = .function) (hdb : ∀ f ∈ ps, (f == ("__debug__" : Str)) = false) (val : Str → Value) (hv : ∀ f ∈ ps, m f = some (val f))
    : ∀ (l : List (Str × (Pos × Pos × Pos × Pos))) (acc : List (Str × Value)) (hh : Heap) (t : Nat), (∀ z ∈ l, z.1 ∈ ps) → acc.length + l.length ≤ 900 → hh.Ns L m → (∀ b o, hp.get? b = some o → hh.get? b = some o) → ExS C e (L + 1) acc hh →
      (∀ h' tk', (∀ b o, hp.get? b = some o → h'.get? b = some o) → ExS C e (L + 1) ((l.map fun z => (z.1, val z.1)).reverse ++ acc) h' → Q .next ⟨h', g, d, tk', os⟩) →
      wpAny (model prog w) A (execs (l.map (fun z => sxFld z.2.1 z.2.2.1 z.2.2.2.1 z.2.2.2.2 z.1)) (ksEnv qual scope L fI cdv cc)) Q E ⟨hh, g, d, t, os⟩ := by
  intro l
  induction l with
  | nil =>
    intro acc hh t _ _ hm kp S hq
    exact wpAny_execs_nil (hq hh t kp S)
  | cons z l ih =>
    intro acc hh t hl hz hm kp S hq
    obtain ⟨f, q1, q2, q3, q4⟩ := z
    have hf : f ∈ ps := hl _ (List.mem_cons_self ..)
    rw [List.map_cons]
    refine wpAny_execs_cons ?_
    show wpAny _ _ (exec (sxFld q1 q2 q3 q4 f) _) _ _ _
    unfold sxFld
    refine plainObj_wpAny_Assign_Attribute ?_
    refine wpAny_Name (wpAny_loadName_local hk (hkf f hf) hm (hv f hf) ?_) (hdb f hf)
    refine wpAny_Name (wpAny_loadName_local hk hka hm hs ?_) (by decide)
    refine sx_store T X he (Nat.ne_of_gt hL) hm hL kp hf (by rw [List.length_cons] at hz; omega) S (fun h' tk' hm' kp' S' => ?_)
    refine ih _ h' tk' (fun y hy => hl y (List.mem_cons_of_mem _ hy)) (by rw [List.length_cons] at hz ⊢; omega) hm' kp' S' (fun h2 tk2 k2 S2 => hq h2 tk2 k2 ?_)
    have e1 : (List.map (fun z => (z.1, val z.1)) ((f, q1, q2, q3, q4) :: l)).reverse ++ acc = (List.map (fun z => (z.1, val z.1)) l).reverse ++ (f, val f) :: acc := by simp
    rw [e1]
    exact S2
/-- the __init__ runs -/
theorem sx_init {hp : Heap} {g : Array GenState} {d : Drawn} {t : Nat} {os : OsState} {us : List Value} (T : SxTxt prog K mg x C fI ps) (X : K.In hp) (hlim : hp.NoLimit) (hg : hp.Ns mainGlobals mg) (hb : hp.Ns builtinsNs mb) (hbb : mb "super" = bootBuiltins "super")
    (hroom : A.depth < recursionLimit) (hlen : us.length = ps.length) (hnd : ps.Nodup) (hns : ("self" : Str) ∉ ps) (hdb : ("__debug__" : Str) ∉ ps) (hz : ps.length ≤ 900) :
    codeAny (model prog w) A (.call (.ref fI) ⟨.ref (hp.objs.size + 1) :: us, []⟩) (fun r s' => r = .ok (.ret .none) ∧ s'.os = os ∧ s'.gens = g ∧ (∀ b o, hp.get? b = some o → s'.heap.get? b = some o) ∧ ExS C (hp.objs.size + 1) (hp.objs.size + 3) (ps.zip us).reverse s'.heap)
      ⟨(hp.push (kdv_tup us)).push (PySem.HandSPX.excO C hp.objs.size), g, d, t, os⟩ := by
  obtain ⟨oc, od, doc, pm, an, cda, ct, osl, cc, qual, params, body, scope, ho, hcd, ⟨ccl, cdd, vs, ccs, file, tf, hcode, hvs, hfile⟩, ⟨cl, cld, csl, hcell⟩, hpar, ⟨p0, p1, p2, p3, p4, p5, j, msg, qs, hbody, hqs, hpl⟩, hks, hkc, hka, hkf, hnc, hco, hgen, hk, hbind⟩ := T.fn
  have kk : ∀ b o, hp.get? b = some o → ((hp.push (kdv_tup us)).push (PySem.HandSPX.excO C hp.objs.size)).get? b = some o := fun b o e => Heap.get?_push_of_some _ (Heap.get?_push_of_some _ e)
  have hget : ((hp.push (kdv_tup us)).push (PySem.HandSPX.excO C hp.objs.size)).get? (hp.objs.size + 1) = some (PySem.HandSPX.excO C hp.objs.size) := by heap_get
  have hsz : ((hp.push (kdv_tup us)).push (PySem.HandSPX.excO C hp.objs.size)).objs.size = hp.objs.size + 2 := by simp [Heap.push]
  generalize ((hp.push (kdv_tup us)).push (PySem.HandSPX.excO C hp.objs.size)) = h1 at kk hget hsz ⊢
  have X1 : K.In h1 := X.keeps kk
  refine ks_codeAny_call_defAt (fd := ksFn "__init__" qual params body scope .none .none doc pm an (.ref cda) ct cc) (body := body) (binds := (("self" : Str) :: ps).zip (.ref (hp.objs.size + 1) :: us)) hroom (X1 _ _ ho) rfl (hlim.keeps kk) (codeRec_of X1 hcd) rfl
    (hbind _ _ (by simp [hlen])) hnc ?_ (fun h0 hL hk0 => ?_) hco hgen hk
  · intro y hy
    have hy1 : y.1 ∈ ("self" : Str) :: ps := (List.of_mem_zip hy).1
    rcases List.mem_cons.mp hy1 with e | e
    · rw [e]
      exact hka
    · exact hkf _ e
  · show _root_.PySem.wpAt _ _ _ (execs body (ksEnv qual scope h1.objs.size fI (.ref cda) cc)) _ _ _
    have hL' : h0.Ns h1.objs.size (fun y => ((("self" : Str) :: ps).zip (Value.ref (hp.objs.size + 1) :: us)).reverse.lookup y) := hL
    have hk0' : ∀ b o, hp.get? b = some o → h0.get? b = some o := fun b o z => hk0 b o (kk b o z)
    have look := @look_rev
    have lt1 : hp.objs.size + 1 < h1.objs.size := hsz ▸ Nat.lt_succ_self _
    have nb1 : ∀ {b : Addr} {o : Obj}, hp.get? b = some o → b ≠ hp.objs.size + 1 := fun z => Nat.ne_of_lt (Nat.lt_succ_of_lt (Heap.lt_size z))
    have zlen : (("self" : Str) :: ps).length = (Value.ref (hp.objs.size + 1) :: us).length := by simp [hlen]
    have nd0 : (((("self" : Str) :: ps).zip (Value.ref (hp.objs.size + 1) :: us)).map (·.1)).Nodup := by
      have e1 : ((("self" : Str) :: ps).zip (Value.ref (hp.objs.size + 1) :: us)).map (·.1) = ("self" : Str) :: ps := List.map_fst_zip (by omega)
      rw [e1]
      exact List.nodup_cons.mpr ⟨hns, hnd⟩
    have hs : ((("self" : Str) :: ps).zip (Value.ref (hp.objs.size + 1) :: us)).reverse.lookup ("self" : Str) = some (.ref (hp.objs.size + 1)) := look _ _ _ nd0 (by rw [List.zip_cons_cons]; exact List.mem_cons_self ..)
    have hv : ∀ f ∈ ps, ((("self" : Str) :: ps).zip (Value.ref (hp.objs.size + 1) :: us)).reverse.lookup f = some ((((("self" : Str) :: ps).zip (Value.ref (hp.objs.size + 1) :: us)).reverse.lookup f).getD .none) := by
      intro f hf
      obtain ⟨i, hi, rfl⟩ := List.mem_iff_getElem.mp hf
      have e1 := look _ ps[i] us[i] nd0 (by rw [List.zip_cons_cons]; exact List.mem_cons_of_mem _ (List.mem_iff_getElem.mpr ⟨i, by simp [hlen, hi], by simp⟩))
      rw [e1]
      rfl
    rw [hbody]
    refine ks_wpAt_execs_cons ?_
    refine sx_sup_stmt (qual := qual) hpl T (X.keeps hk0') (by obtain ⟨o, es, ep, a1, a2⟩ := hg; exact ⟨o, es, ep, hk0' _ _ a1, a2⟩) (by obtain ⟨o, es, ep, a1, a2⟩ := hb; exact ⟨o, es, ep, hk0' _ _ a1, a2⟩) hbb hL' hs (hk0 _ _ hget) ?_ (Nat.ne_of_gt lt1) ho hpar hcode hvs hfile hcell hks hkc hka hk (fun h2 tk2 t1 k2 hx2 => ?_)
    · rintro e
      obtain ⟨nm, q, N, bs, bm, sn, sub, ab, col, dd, k0, k1, k2, k3, k5, hC, hbm⟩ := T.cls
      exact nb1 (X _ _ hC) e.symm
    · refine wpAt_of_wpAny ?_
      have kp2 : ∀ b o, hp.get? b = some o → h2.get? b = some o := fun b o z => k2 b o (nb1 z) (hk0' b o z)
      refine sx_flds T X (e := hp.objs.size + 1) (L := h1.objs.size) (Nat.le_succ _) lt1 hs hka hkf hk (fun f hf => by
        have : f ≠ ("__debug__" : Str) := fun z => hdb (z ▸ hf)
        simpa using this) _ hv (ps.zip qs) [] h2 tk2 (fun z hz => (List.of_mem_zip hz).1) (by simp [hqs]; omega) ?_ kp2 ⟨t1, .inl ⟨rfl, hx2⟩⟩ (fun h3 tk3 k3 S3 => ?_)
      · obtain ⟨o, es, ep, a1, a2⟩ := hL'
        exact ⟨o, es, ep, k2 _ _ (Nat.ne_of_gt lt1) a1, a2⟩
      · refine ⟨rfl, rfl, rfl, k3, ?_⟩
        have e1 : (List.map (fun z => (z.1, (((("self" : Str) :: ps).zip (Value.ref (hp.objs.size + 1) :: us)).reverse.lookup z.1).getD .none)) (ps.zip qs)) = ps.zip us := by
          refine List.ext_getElem (by simp [hqs, hlen]) fun i h1 h2 => ?_
          have hi : i < ps.length := by simp [hqs] at h1; omega
          have hi2 : i < us.length := by omega
          have e1 := look _ ps[i] us[i] nd0 (by rw [List.zip_cons_cons]; exact List.mem_cons_of_mem _ (List.mem_iff_getElem.mpr ⟨i, by simp [hlen, hi], by simp⟩))
          simp only [List.getElem_map, List.getElem_zip]
          rw [e1]
          rfl
        rw [List.append_nil, e1, hsz] at S3
        exact S3
end

end SXE
end PySem
namespace PVL
open PySem PySem.Spec L2 PySem.SXE PyProof.Rows
theorem relO_zip : ∀ {vs : List V} {us : List Value} (ps : List Str) (av : List (Str × V)) (au : List (Str × Value)), Vals vs us → (∀ f, RelO (av.lookup f) (au.lookup f)) → ∀ f, RelO (((ps.zip vs).reverse ++ av).lookup f) (((ps.zip us).reverse ++ au).lookup f) := by
  intro vs us ps av au h
  induction h generalizing ps av au with
  | nil => intro r f; simpa using r f
  | @cons v u vr ur hv hr ih =>
    intro r f
    cases ps with
    | nil => simpa using r f
    | cons p ps =>
      rw [List.zip_cons_cons, List.zip_cons_cons, List.reverse_cons, List.reverse_cons, List.append_assoc, List.append_assoc]
      refine ih ps _ _ (fun g => ?_) f
      show RelO (((p, v) :: av).lookup g) (((p, u) :: au).lookup g)
      rw [lput, lput]
      by_cases e : g = p
      · rw [if_pos e, if_pos e]; exact hv
      · rw [if_neg e, if_neg e]; exact r g
/-- the reading of C(e, ..): the fields are stored in a fresh dict -/
def tMkS (C : Addr) (ps : List Str) (ta : TA)   : L2.St → Hp → XK → Prop := fun σ H Q => ta σ H fun vs H1 => vs.length = ps.length ∧
  match ps with
  | [] => Q (.ref C) none H1
  | _ :: _ => ∀ d, H1 d = none → Q (.ref C) (some d) (upd H1 d (.xd (ps.zip vs).reverse))
/-- what a name list must keep -/
def psOk (ps : List Str) : Bool := decide ps.Nodup && (!ps.contains "self" && (!ps.contains "__debug__" && decide (ps.length ≤ 900)))
section
variable {X : Cx} {x : Str} {C fI : Addr} {ps : List Str}
theorem mk_call {pins : List (Addr × Obj)} {σ : L2.St} {H1 : Hp} {s1 : Shared} {us : List Value} {vs : List V} {Q : XK} {k : Nat} (T : SxTxt X.prog X.K X.mg x C fI ps) (hp : psOk ps = true) (hr : Room (k + 1) X.A) (hsu : X.mg "super" = none) (I1 : Inv X pins σ H1 s1) (r1 : Vals vs us) (hl : vs.length = ps.length)
    (q : match ps with | [] => Q (.ref C) none H1 | _ :: _ => ∀ d, H1 d = none → Q (.ref C) (some d) (upd H1 d (.xd (ps.zip vs).reverse))) :
    wpAny (model X.prog X.w) X.A (call (.ref C) us) (MkP X pins σ Q) X.xe s1 := by
  unfold psOk at hp
  simp only [Bool.and_eq_true, decide_eq_true_eq, Bool.not_eq_true', List.contains_iff_mem, ← Bool.not_eq_true] at hp
  obtain ⟨hnd, hself, hdbg, h900⟩ := hp
  obtain ⟨nm, q0, N, bs, bm, sn, sub, ab, col, dd, k0, k1, k2, k3, k5, hC, hbm⟩ := T.cls
  have ok := I1.ok.mod
  have bk : ∀ b o, X.base.get? b = some o → s1.heap.get? b = some o := I1.bk
  obtain ⟨mb, hmb, hmbb⟩ := ok.blt
  have hlim : s1.heap.NoLimit := I1.nolimit
  have hgl : s1.heap.Ns mainGlobals X.mg := by obtain ⟨o, es, ep, a1, a2⟩ := ok.glob; exact ⟨o, es, ep, bk _ _ a1, a2⟩
  have hbl : s1.heap.Ns builtinsNs mb := by obtain ⟨o, es, ep, a1, a2⟩ := hmb; exact ⟨o, es, ep, bk _ _ a1, a2⟩
  have hX := I1.kIn
  have hlu : us.length = ps.length := by rw [← r1.length]; exact hl
  obtain ⟨h0, g, dr, tk, os⟩ := s1
  have hus : us.length ≤ sizeLine := by rw [hlu, sizeLine_eq]; omega
  have r' : Room k (X.A.under (.builtin "type.__call__" ⟨.ref C :: us, []⟩)) := hr.make C us []
  refine wpAny_call (PySem.HandSPX.call_own F.excBase_ValueError (fun Y => PySem.HandSPX.refsVE_contains Y bm hbm) (hX _ _ hC) (PySem.W.looks_findIn hX T.iC) (fun self => PySem.W.bind_fn hX self T.tC) hus
    (codeAny_mono (sx_init T hX hlim hgl hbl (hmbb _ (by decide)) r'.depth hlu hnd hself hdbg h900) fun r s' hq' => ?_))
  obtain ⟨er, eo, eg, kp, t1, S⟩ := hq'
  subst er
  obtain ⟨h2, g2, d2, t2, os2⟩ := s'
  dsimp only at eo eg kp S
  subst eo eg
  have hn1 : H1 (h0.objs.size + 1) = none := I1.hok.fresh (Nat.le_succ _)
  have nha : ∀ {b : Addr} {o : Obj}, h0.get? b = some o → b ≠ h0.objs.size + 1 := fun {b o} z => Nat.ne_of_lt (Nat.lt_of_lt_of_le (Heap.lt_size z) (Nat.le_succ _))
  have hnew : h0.get? (h0.objs.size + 1) = none := by
    cases z : h0.get? (h0.objs.size + 1) with
    | none => rfl
    | some o => exact absurd rfl (nha z)
  refine ⟨rfl, ?_⟩
  have rais : Raises X (.ref C) := raises_own T.exC T.tyC
  rcases S with ⟨ea, hx⟩ | ⟨dx, hac, hdx, hde, hx, mA, hns, hmA⟩
  · have hps : ps = [] := by
      cases ps with
      | nil => rfl
      | cons p r =>
        cases us with
        | nil => simp at hlu
        | cons u ur => simp at ea
    subst hps
    exact ⟨_, _, _, _, H1, .ref C, none, rfl, I1, kp, hnew, hx, ⟨rfl, rfl⟩, rfl, rfl, hn1, rfl, I1.bare, rais, q⟩
  · have hps : ∃ p r, ps = p :: r := by
      cases ps with
      | cons p r => exact ⟨p, r, rfl⟩
      | nil =>
        exact absurd rfl hac
    obtain ⟨p, r, hps⟩ := hps
    have hd1 : H1 dx = none := I1.hok.fresh (show h0.objs.size ≤ dx by exact Nat.le_trans (Nat.le_add_right _ 3) hdx)
    have ndx : ∀ {b : Addr} {o : Obj}, h0.get? b = some o → b ≠ dx := fun {b o} z => Nat.ne_of_lt (Nat.lt_of_lt_of_le (Heap.lt_size z) (Nat.le_trans (Nat.le_add_right _ 3) hdx))
    have un : Un (frs X.stack) [] (upd H1 (h0.objs.size + 1) (exo (h0.objs.size + 1) C none)) (upd (upd H1 dx (exd dx (ps.zip vs).reverse)) (h0.objs.size + 1) (exo (h0.objs.size + 1) C (some dx))) h0 h2 := {
      keep := fun b o z _ _ _ => kp b o z
      slot := fun b o z _ _ _ => ⟨o.slots, kp b o z⟩
      free := fun b o z n _ => by rw [upd_ne (nha z), upd_ne (ndx z)]; rw [upd_ne (nha z)] at n; exact n
      there := fun b o z _ => ⟨o, kp b o z⟩
      tups := fun b xs z => by
        by_cases e : b = h0.objs.size + 1
        · rw [e, upd_same] at z; exact absurd (Option.some.inj z) exo_tup
        · rw [upd_ne e] at z; rw [upd_ne e, upd_ne (ne_of_none z hd1)]; exact z
      frzs := fun b o v z => by
        by_cases e : b = h0.objs.size + 1
        · rw [e, upd_same] at z; exact absurd (Option.some.inj z) exo_frz
        · rw [upd_ne e] at z; rw [upd_ne e, upd_ne (ne_of_none z hd1)]; exact z
      tbls := fun b ps' z => ⟨#[], by
        by_cases e : b = h0.objs.size + 1
        · rw [e, upd_same] at z; exact absurd (Option.some.inj z) exo_tbl
        · rw [upd_ne e] at z; rw [upd_ne e, upd_ne (ne_of_none z hd1), z]; simp⟩ }
    have hok2 : HOk X.prog X.w (upd (upd H1 dx (exd dx (ps.zip vs).reverse)) (h0.objs.size + 1) (exo (h0.objs.size + 1) C (some dx))) h2 := fun b o z => by
      by_cases e : b = h0.objs.size + 1
      · rw [e, upd_same] at z
        obtain rfl := Option.some.inj z
        rw [e]
        exact exo_ok hx
      · rw [upd_ne e] at z
        by_cases e2 : b = dx
        · rw [e2, upd_same] at z
          obtain rfl := Option.some.inj z
          rw [e2]
          refine exd_ok hns fun f => ?_
          rw [hmA]
          have := relO_zip (vs := vs) (us := us) ps [] [] r1 (fun _ => True.intro) f
          rwa [List.append_nil, List.append_nil] at this
        · rw [upd_ne e2] at z
          have nod : ∀ {c : Addr} {u : HO}, H1 c = some u → c ≠ h0.objs.size + 1 ∧ c ≠ dx := fun {c u} hc => ⟨ne_of_none hc hn1, ne_of_none hc hd1⟩
          exact (I1.hok b o z).stay (fun c v _ y => kp c v y) (fun c hc => by rw [upd_ne (nod hc).1, upd_ne (nod hc).2]; exact hc) (fun c xs hc => by rw [upd_ne (nod hc).1, upd_ne (nod hc).2]; exact hc)
    have eH : upd (del (upd (upd H1 dx (exd dx (ps.zip vs).reverse)) (h0.objs.size + 1) (exo (h0.objs.size + 1) C (some dx))) (h0.objs.size + 1)) dx (.xd (ps.zip vs).reverse) = upd H1 dx (.xd (ps.zip vs).reverse) := by
      funext b
      by_cases e : b = dx
      · rw [e, upd_same, upd_same]
      · rw [upd_ne e, upd_ne e]
        by_cases e2 : b = h0.objs.size + 1
        · rw [e2, del_same, hn1]
        · rw [del_ne e2, upd_ne e2, upd_ne e]
    refine mk_end (Q := Q) rais I1 (Nat.le_succ _) (fun _ _ z => z) un hok2 rfl I1.bare upd_same (by rw [upd_ne hde, upd_same]) hd1 ?_
    rw [eH]
    subst hps
    exact q dx hd1
end
end PVL

/-! E3: raise of an own exception; try with several clauses, each with or without a name. -/
namespace PVL
open PySem PySem.Spec L2 PySem.SXE PyProof.Rows
/-! ### rule -/
abbrev Cl := Value × Option Nat × (Addr → Value → Option Addr → TS)
def dEnd (D : Ends) : Option Nat → Ends
  | none => D
  | some i => { nx := fun σ' H' => D.nx (σ'.set i none) H', rt := D.rt, bk := fun σ' H' => D.bk (σ'.set i none) H', ct := fun σ' H' => D.ct (σ'.set i none) H' }
def sEnd (σ : L2.St) (a : Addr) : Option Nat → L2.St
  | none => σ
  | some i => σ.set i (some (.ref a))
def wGen (K : PySem.W.Frag) (Wout : WX) (D : Ends) : List Cl → WX
  | [] => Wout
  | (c, i, ts) :: r => fun cls d σ H => ∃ b, PySem.W.exmOne K cls c = some b ∧ (b = true → ∀ a, H a = none → ts a cls d (dEnd D i) (sEnd σ a i) H) ∧ (b = false → wGen K Wout D r cls d σ H)
inductive HdG (X : Cx) : List ExceptHandler → List Cl → Prop
  | nil : HdG X [] []
  | cons {x : Str} {c : Value} {ts : Addr → Value → Option Addr → TS} {b₀ : Stmt} {suite : List Stmt} {np pos' : Pos} {hds : List ExceptHandler} {l : List Cl} (hc : Names X x c)
      (hsu : ∀ (a : Addr) (oe : Obj) (cls : Value) (d : Option Addr) (pn : List (Addr × Obj)), Zc cls d oe → (∃ vs, oe.data = .fields vs) → PSs (X.suite a ((a, oe) :: pn)) (b₀ :: suite) (ts a cls d)) (r : HdG X hds l) :
      HdG X (.ExceptHandler (some (.Name x np)) none (b₀ :: suite) pos' :: hds) ((c, none, ts) :: l)
  | as {x n : Str} {i : Nat} {c : Value} {ts : Addr → Value → Option Addr → TS} {b₀ : Stmt} {suite : List Stmt} {np pos' : Pos} {hds : List ExceptHandler} {l : List Cl} (hc : Names X x c) (hN : X.N.Nodup) (hi : X.N[i]? = some n) (hln : X.env.kindOf n = some .local)
      (hsu : ∀ (a : Addr) (oe : Obj) (cls : Value) (d : Option Addr) (pn : List (Addr × Obj)), Zc cls d oe → (∃ vs, oe.data = .fields vs) → PSs (X.suite a ((a, oe) :: pn)) (b₀ :: suite) (ts a cls d)) (r : HdG X hds l) :
      HdG X (.ExceptHandler (some (.Name x np)) (some n) (b₀ :: suite) pos' :: hds) ((c, some i, ts) :: l)
section
variable {X : Cx} {body : List Stmt} {h₀ : ExceptHandler} {hds : List ExceptHandler} {l : List Cl} {pos : Pos} {tb : WX → TS} {Wout : WX}
theorem ps_try_gen (hs : X.stack = X.env :: X.outer) (hf : X.env.frame = some X.env.locals) (tk : Takes X Wout)
    (hb : ∀ (W : WX) (pn : List (Addr × Obj)) (xe : Value → Shared → Prop), Takes (X.tr pn xe) W → PassesOwn (model X.prog X.w) X.A X.env xe → PSs (X.tr pn xe) body (tb W))
    (hh : HdG X (h₀ :: hds) l) : PS X (.Try body (h₀ :: hds) [] [] pos) (fun D σ H => tb (wGen X.K Wout D l) D σ H) := by
  refine ⟨fun pins s σ H D I h => ?_⟩
  have ok := I.ok
  have hfr : X.A.frames = some (X.env :: X.outer) := by rw [ok.frames, hs]
  refine wpAny_Try_except ?_
  refine wpAny_mono ((hb (wGen X.K Wout D l) (X.pn ++ pins) (fun e s₁ => wpAny (model X.prog X.w) X.A (noteFrame e X.env) (fun _ s₂ => wpAny (model X.prog X.w) X.A (setFlight e none) (fun _ s₃ =>
    wpAny (model X.prog X.w) X.A (handleBy e X.env (h₀ :: hds)) (SP X pins D) X.xe s₃) X.xe s₂) X.xe s₁) (fun u s' xx => ?_) PassesOwn.looking).run [] s σ H D (I.toTry _) h) (fun f s1 hsp => ?_) (fun e s1 he => he)
  · -- the catch
    obtain ⟨a, B, sI, pins', σ', H', cls, d, rfl, J', nb, up, sky, na, os, ag, w⟩ := xx
    have J : Inv X pins σ' H' sI := J'.ofTry ok
    have sky' : Sky B (X.env :: X.outer) a (Zc cls d) X.env.locals s'.heap := by rw [← hs]; exact sky
    show wpAny (model X.prog X.w) X.A (noteFrame (.ref a) X.env) _ _ _
    refine Sky.land Zc.steady hfr hf sky' fun h3 fl3 up3 => ?_
    have J3 : Inv X pins σ' H' { s' with heap := h3 } := J.landed nb fl3.1 (up.trans up3) os ag
    obtain ⟨oe3, vs3, he3, hz3, hd3⟩ := fl3.there
    have notFr : ∀ {h : Heap} {o : Obj} {vs : Array Value}, h.FunFrames B (X.env :: X.outer) → h.get? a = some o → o.data = .fields vs → a ∉ frs (X.env :: X.outer) := fun {h o vs} ff e dd hm => by
      obtain ⟨_, o', e', hnf⟩ := ff.mem hm
      rw [e] at e'; cases e'
      exact hnf _ dd
    have nfr := notFr fl3.2.2.1 he3 hd3
    have nL : a ≠ X.env.locals := fun z => nfr (List.mem_filterMap.mpr ⟨X.env, List.mem_cons_self, by rw [hf, z]⟩)
    have nF : a ∉ X.fs := fun hm => by
      obtain ⟨e, he, q⟩ := List.mem_filterMap.mp hm
      exact nfr (List.mem_filterMap.mpr ⟨e, List.mem_cons_of_mem _ he, q⟩)
    have S3 := J3.suite he3 hd3 na nL nF
    have go : ∀ {hds' : List ExceptHandler} {l' : List Cl}, HdG X hds' l' → wGen X.K Wout D l' cls d σ' H' →
        wpAny (model X.prog X.w) X.A (handleBy (.ref a) X.env hds') (SP X pins D) X.xe { s' with heap := h3 } := by
      intro hds' l' hk
      have test : ∀ {x : Str} {c : Value} {np : Pos} {Q : Value → Shared → Prop} {E : Value → Shared → Prop}, Names X x c → Q c { s' with heap := h3 } → wpAny (model X.prog X.w) (X.A.mark (some (.ref a))) (eval (.Name x np) X.env) Q E { s' with heap := h3 } := fun {x c np Q E} hc q => by
        obtain ⟨hg, hdbg, hm | ⟨hm, hv, hnn⟩⟩ := hc
        · exact ld_glob (X := X.suite a ((a, oe3) :: (X.pn ++ pins))) S3 hg hm q hdbg
        · exact ld_blt (X := X.suite a ((a, oe3) :: (X.pn ++ pins))) S3 hg hm hv q hnn hdbg
      have LT : PySem.W.Looks (model X.prog X.w) h3 (typeOf (.ref a)) cls := fun A Q E s k q => wpAny_typeOf_ref (k _ _ he3) (by rw [hz3.1]; exact q)
      induction hk with
      | nil =>
        intro w
        refine wpAny_handleBy_nil ?_
        obtain ⟨k1, k2, k3, oe, vs, T, oT, ts', he, hz, hd, h1, hr⟩ := id fl3
        unfold PySem.passOn
        refine wpAny_bind (wpAny_field he hd h1 ?_)
        rw [if_neg (show ¬ ((Value.ref T == Value.none) = true) from by simp)]
        have fin : wpAny (model X.prog X.w) X.A (setFlight (.ref a) X.env.frame) (fun _ s4 => wpAny (model X.prog X.w) X.A (throw (.ref a) : Sem Flow) (SP X pins D) X.xe s4) X.xe { s' with heap := h3 } := by
          rw [hf]
          refine HandSPX.setFlight_upZ fl3 fun h4 hh4 up4 => wpAny_throw (tk _ _ ?_)
          exact ⟨a, B, sI, pins, σ', H', cls, d, rfl, J, nb, (up.trans up3).trans up4, .inr (.inr (by rw [hs]; exact hh4)), na, os, ag, w⟩
        first
          | exact wpAny_bind (wpAny_pure (wpAny_bind fin))
          | exact wpAny_bind fin
      | @cons x c ts b₀ suite np pos' hds2 l2 hc hsu r ih =>
        intro w
        obtain ⟨b, hb1, hyes, hno⟩ := w
        refine wpAny_handleBy_cons (codeAny_handlers_test ?_) (by intro q; cases q)
        have LM := PySem.W.exm_one (M := model X.prog X.w) (J3.kIn) LT hb1
        refine test hc (LM.here ?_)
        cases b with
        | true =>
          refine codeAny_handlers_suite ?_
          refine HandSPX.lands_againZ fl3 fun h4 fl4 up4 => ?_
          have J4 : Inv X pins σ' H' { s' with heap := h4 } := J.landed nb fl4.1 ((up.trans up3).trans up4) os ag
          obtain ⟨oe4, vs4, he4, hz4, hd4⟩ := fl4.there
          have S4 := J4.suite he4 hd4 na nL nF
          refine wpAny_mono ((hsu a oe4 cls d (X.pn ++ pins) hz4 ⟨_, hd4⟩).run [] _ _ H' _ S4 (hyes rfl a na)) (fun f s6 hsp => ?_) (fun _ _ z => False.elim z)
          cases f with
          | next =>
            obtain ⟨σ6, H6, S6, q6⟩ := hsp
            exact ⟨_, _, S6.unsuite ok, q6⟩
          | brk =>
            obtain ⟨σ6, H6, S6, q6⟩ := hsp
            exact ⟨_, _, S6.unsuite ok, q6⟩
          | cont =>
            obtain ⟨σ6, H6, S6, q6⟩ := hsp
            exact ⟨_, _, S6.unsuite ok, q6⟩
          | ret u =>
            obtain ⟨v6, σ6, H6, S6, r6, q6⟩ := hsp
            exact ⟨_, _, _, S6.unsuite ok, r6, q6⟩
        | false =>
          show wpAny _ X.A (handleBy (.ref a) X.env hds2) _ _ _
          exact ih (hno rfl)
      | @as x n i c ts b₀ suite np pos' hds2 l2 hc hN hi hln hsu r ih =>
        intro w
        obtain ⟨b, hb1, hyes, hno⟩ := w
        refine wpAny_handleBy_cons (codeAny_handlers_test ?_) (by intro q; cases q)
        have LM := PySem.W.exm_one (M := model X.prog X.w) (J3.kIn) LT hb1
        refine test hc (LM.here ?_)
        cases b with
        | true =>
          refine codeAny_handlers_suite_as ?_
          refine HandSPX.lands_againZ fl3 fun h4 fl4 up4 => ?_
          have J4 : Inv X pins σ' H' { s' with heap := h4 } := J.landed nb fl4.1 ((up.trans up3).trans up4) os ag
          obtain ⟨oe4, vs4, he4, hz4, hd4⟩ := fl4.there
          have S4 := J4.suite he4 hd4 na nL nF
          refine store_ok (X := X.suite a ((a, oe4) :: (X.pn ++ pins))) (v := .ref a) S4 hN hi (.inl hln) rfl (fun s5 S5 => ?_) (.inr hln)
          refine wpAny_mono ((hsu a oe4 cls d (X.pn ++ pins) hz4 ⟨_, hd4⟩).run [] s5 _ H' _ S5 (hyes rfl a na)) (fun f s6 hsp => ?_) (fun _ _ z => False.elim z)
          have end_ : ∀ {σ6 : L2.St} {H6 : Hp} {Q : Shared → Prop}, Inv (X.suite a ((a, oe4) :: (X.pn ++ pins))) [] σ6 H6 s6 → (∀ s7, Inv X pins (σ6.set i none) H6 s7 → Q s7) →
              wpAny (model X.prog X.w) X.A (do bindName X.env n .none; unbindBehindTheSuite X.env n pos') (fun _ s7 => Q s7) X.xe s6 := fun {σ6 H6 Q} S6 hq => gone_ok (S6.unsuite ok) hN hi hln hq
          cases f with
          | next =>
            obtain ⟨σ6, H6, S6, q6⟩ := hsp
            exact end_ S6 fun s7 J7 => ⟨_, _, J7, q6⟩
          | brk =>
            obtain ⟨σ6, H6, S6, q6⟩ := hsp
            exact end_ S6 fun s7 J7 => ⟨_, _, J7, q6⟩
          | cont =>
            obtain ⟨σ6, H6, S6, q6⟩ := hsp
            exact end_ S6 fun s7 J7 => ⟨_, _, J7, q6⟩
          | ret u =>
            obtain ⟨v6, σ6, H6, S6, r6, q6⟩ := hsp
            exact end_ S6 fun s7 J7 => ⟨_, _, _, J7, r6, q6⟩
        | false =>
          show wpAny _ X.A (handleBy (.ref a) X.env hds2) _ _ _
          exact ih (hno rfl)
    exact go hh w
  · cases f with
    | next =>
      obtain ⟨σ', H', J', q⟩ := hsp
      exact wpAny_execs_nil ⟨σ', H', J'.ofTry ok, q⟩
    | brk =>
      obtain ⟨σ', H', J', q⟩ := hsp
      exact ⟨σ', H', J'.ofTry ok, q⟩
    | cont =>
      obtain ⟨σ', H', J', q⟩ := hsp
      exact ⟨σ', H', J'.ofTry ok, q⟩
    | ret u =>
      obtain ⟨v, σ', H', J', r, q⟩ := hsp
      exact ⟨v, σ', H', J'.ofTry ok, r, q⟩
end

/-! ### pure -/
/-- a clause: which classes it takes (by the module's names), its name's slot, its suite -/
abbrev PCl := List (Str × Bool) × Option Nat × (PX → SM)
def slotN (i : Option Nat) (e : PEnv) : PEnv := match i with
  | none => e
  | some i => e.set i none
def SO.map (f : PEnv → PEnv) : SO → SO
  | .next e => .next (f e)
  | .ret x e => .ret x (f e)
  | .brk e => .brk (f e)
  | .cont e => .cont (f e)
  | .exc x e => .exc x (f e)
  | .bad => .bad
def noX : SO → SO
  | .exc _ _ => .bad
  | o => o
def slotIn (i : Option Nat) (e : PEnv) : Bool := match i with
  | none => true
  | some j => decide (j < e.length)
def pick (x : PX) (e : PEnv) : List PCl → SO
  | [] => .exc x e
  | (tab, i, m) :: r => match tab.lookup x.cls with
    | some true => if slotIn i e = true then (noX (m x (slotN i e))).map (slotN i) else .bad
    | some false => pick x e r
    | none => .bad
def sTry (b : SM) (l : List PCl) : SM := fun env => match b env with
  | .exc x e => pick x e l
  | o => o
/-- the table tells what the clause takes -/
def TabOk (K : PySem.W.Frag) (mg : Str → Option Value) (c : Value) (tab : List (Str × Bool)) : Prop := ∀ n b cls, tab.lookup n = some b → mg n = some cls → PySem.W.exmOne K cls c = some b
/-- a suite, the exception x known -/
def SuI (K : PySem.W.Frag) (mg : Str → Option Value) (S : List Nat) (i : Option Nat) (t : TS) (m : SM) (x : PX) (a : Addr) (cls : Value) (d : Option Addr) : Prop := ∀ D σ H env F, RE K H env σ F → F.Nodup → (∀ j, i = some j → σ[j]? = some (some (.ref a))) → RX K mg x cls d H → PostS K mg (fun _ _ _ _ => False) S D σ H F (m env) → t D σ H
inductive ClOk (K : PySem.W.Frag) (mg : Str → Option Value) (S : List Nat) : List Cl → List PCl → Prop
  | nil : ClOk K mg S [] []
  | cons {c : Value} {tab : List (Str × Bool)} {i : Option Nat} {ts : Addr → Value → Option Addr → TS} {m : PX → SM} {l : List Cl} {p : List PCl} (ht : TabOk K mg c tab) (hi : ∀ j, i = some j → j ∈ S)
      (hm : ∀ x a cls d, SuI K mg S i (ts a cls d) (m x) x a cls d) (r : ClOk K mg S l p) : ClOk K mg S ((c, i, ts) :: l) ((tab, i, m) :: p)
section
variable {K : PySem.W.Frag} {mg : Str → Option Value} {W : WX} {S S1 S2 T : List Nat}
theorem re_slotN {H : Hp} {e : PEnv} {σ : L2.St} {F : List Addr} {i : Nat} (h : RE K H e σ F) (y : Option V) : ∃ F', RE K H (e.set i none) (σ.set i y) F' ∧ F'.Sublist F := by
  obtain ⟨F1, a, b⟩ := h.forget (i := i)
  exact ⟨F1, RE.anySlot a, b⟩
theorem post_dEnd {D : Ends} {σ : L2.St} {H : Hp} {F : List Addr} {i : Option Nat} (hi : ∀ j, i = some j → j ∈ S) {o : SO} (h : PostS K mg W S D σ H F ((noX o).map (slotN i))) : PostS K mg (fun _ _ _ _ => False) S (dEnd D i) σ H F o := by
  cases i with
  | none =>
    cases o with
    | next e => exact h
    | ret x e => exact h
    | brk e => exact h
    | cont e => exact h
    | exc x e => exact h.elim
    | bad => exact h
  | some i =>
    have hi := hi i rfl
    cases o with
    | next e =>
      intro σ' H' F' x1 x2 x3 x4
      obtain ⟨F1, a, b⟩ := re_slotN (i := i) x1 none
      exact h _ H' F1 a (x2.sublist b) (x3.sub fun z y => b.subset y) (x4.trans (Ag.set hi))
    | brk e =>
      intro σ' H' F' x1 x2 x3 x4
      obtain ⟨F1, a, b⟩ := re_slotN (i := i) x1 none
      exact h _ H' F1 a (x2.sublist b) (x3.sub fun z y => b.subset y) (x4.trans (Ag.set hi))
    | cont e =>
      intro σ' H' F' x1 x2 x3 x4
      obtain ⟨F1, a, b⟩ := re_slotN (i := i) x1 none
      exact h _ H' F1 a (x2.sublist b) (x3.sub fun z y => b.subset y) (x4.trans (Ag.set hi))
    | ret x e =>
      intro v σ' H' Fv F' x1 x2 x3 x4 x5
      obtain ⟨F1, a, b⟩ := re_slotN (i := i) x1 none
      have sub := List.Sublist.append (List.Sublist.refl Fv) b
      exact h v _ H' Fv F1 a x2 (x3.sublist sub) (x4.sub fun z y => sub.subset y) (x5.trans (Ag.set hi))
    | exc x e => exact h.elim
    | bad => exact h
theorem pick_ok {D : Ends} {σ0 : L2.St} {H0 : Hp} {F0 : List Addr} {x : PX} {e : PEnv} {l : List Cl} {p : List PCl} (hc : ClOk K mg S l p) :
    PostS K mg W S D σ0 H0 F0 (pick x e p) → ∀ cls d σ' H' F', RE K H' e σ' F' → F'.Nodup → Fm F0 H0 F' H' → Ag S σ0 σ' → RX K mg x cls d H' → wGen K W D l cls d σ' H' := by
  induction hc with
  | nil => exact fun h => h
  | @cons c tab i ts m l p ht hi hm r ih =>
    intro h cls d σ' H' F' x1 x2 x3 x4 x5
    simp only [pick] at h
    cases ht' : tab.lookup x.cls with
    | none => rw [ht'] at h; exact h.elim
    | some b =>
      refine ⟨b, ht _ _ _ ht' x5.1, fun hb a na => ?_, fun hb => ?_⟩
      · subst hb
        rw [ht'] at h
        simp only at h
        by_cases hz : slotIn i e = true
        · rw [if_pos hz] at h
          have h2 := post_dEnd hi h
          cases i with
          | none => exact hm x a cls d _ σ' H' e F' x1 x2 (fun j z => by cases z) x5 (h2.later x3 x4)
          | some i =>
            obtain ⟨F1, a1, b1⟩ := re_slotN (i := i) x1 (some (.ref a))
            have hl : i < σ'.length := by rw [x1.len]; simpa [slotIn] using hz
            exact hm x a cls d _ _ H' _ F1 a1 (x2.sublist b1) (fun j z => by cases z; exact List.getElem?_set_self hl) x5 (h2.later (x3.sub fun z y => b1.subset y) (x4.trans (Ag.set (hi i rfl))))
        · rw [if_neg hz] at h; exact h.elim
      · subst hb
        rw [ht'] at h
        exact ih h cls d σ' H' F' x1 x2 x3 x4 x5
theorem im_sTry {tb : WX → TS} {b : SM} {l : List Cl} {p : List PCl} (hb : ∀ W', ImS K mg W' S (tb W') b) (hc : ClOk K mg S l p) : ImS K mg W S (fun D σ H => tb (wGen K W D l) D σ H) (sTry b p) := by
  intro D σ H env F hr hn hp
  refine hb _ D σ H env F hr hn ?_
  unfold sTry at hp
  cases e : b env with
  | next e1 => rw [e] at hp; exact hp
  | ret x e1 => rw [e] at hp; exact hp
  | brk e1 => rw [e] at hp; exact hp
  | cont e1 => rw [e] at hp; exact hp
  | exc x e1 =>
    rw [e] at hp
    exact pick_ok hc hp
  | bad => rw [e] at hp; exact hp
/-- raise x(..) -/
def sRaise (x : Str) (ps : List Str) (a : AM) : SM := fun env => (a env).toS fun as e => match seeL e as with
  | some xs => if xs.length = ps.length ∧ immL xs = true then .exc ⟨x, (ps.zip xs).reverse⟩ e else .bad
  | none => .bad
theorem rvf_zip {H : Hp} : ∀ {xs : List PV} {vs : List V} (ps : List Str) (fx : List (Str × PV)) (fv : List (Str × V)), RB K H xs vs → immL xs = true → RVF K H fx fv [] → RVF K H ((ps.zip xs).reverse ++ fx) ((ps.zip vs).reverse ++ fv) []
  | [], vs, ps, fx, fv, h, _, g => by
    simp only [RB] at h
    subst h
    simpa using g
  | x :: xs, vs, [], fx, fv, h, _, g => by simpa using g
  | x :: xs, vs, p :: ps, fx, fv, h, hi, g => by
    simp only [RB] at h
    obtain ⟨v, vr, F, rfl, h1, h2⟩ := h
    simp only [immL, Bool.and_eq_true] at hi
    have := RV.imm hi.1 h1
    subst this
    rw [List.zip_cons_cons, List.zip_cons_cons, List.reverse_cons, List.reverse_cons, List.append_assoc, List.append_assoc]
    exact rvf_zip ps _ _ h2 hi.2 (by simp only [List.cons_append, List.nil_append, RVF]; exact ⟨v, fv, [], [], rfl, h1, g, rfl⟩)
theorem RB.length {H : Hp} : ∀ {xs : List PV} {vs : List V}, RB K H xs vs → vs.length = xs.length
  | [], vs, h => by simp only [RB] at h; rw [h]; rfl
  | x :: xs, vs, h => by
    simp only [RB] at h
    obtain ⟨v, vr, F, rfl, h1, h2⟩ := h
    simp [RB.length h2]
theorem im_sRaise {x : Str} {C : Addr} {ps : List Str} {ta : TA} {a : AM} (hm : mg x = some (.ref C)) (ha : ImA K mg W ta a) : ImS K mg W [] (fun _ σ H => tMkS C ps ta σ H fun cls d H' => W cls d σ H') (sRaise x ps a) := by
  intro D σ H env F hr hn hp
  refine ha σ H _ env F hr hn (hp.ofE.imp fun as e1 q1 vs H1 Fv F1 hr1 hx hn1 hf1 => ?_)
  cases ex : seeL e1 as with
  | none => rw [ex] at q1; exact q1.elim
  | some xs =>
    rw [ex] at q1
    simp only at q1
    by_cases hi : xs.length = ps.length ∧ immL xs = true
    · rw [if_pos hi] at q1
      have hb := seeL_ok hr1 hx ex
      have hl : vs.length = ps.length := by rw [RB.length hb]; exact hi.1
      refine ⟨hl, ?_⟩
      cases ps with
      | nil =>
        refine q1 (.ref C) none σ H1 F1 hr1 (nd_right hn1) (fm_left hf1) Ag.refl ⟨hm, .inl ?_⟩
        simp
      | cons p r =>
        intro d hd
        have s : Sm H1 (upd H1 d (.xd ((p :: r).zip vs).reverse)) := sm_upd hd
        refine q1 (.ref C) (some d) σ _ F1 (hr1.sm s) (nd_right hn1) ((fm_left hf1).trans (Fm.of_sm s fun _ z => .inl z)) Ag.refl ⟨hm, .inr ⟨d, _, rfl, upd_same, ?_⟩⟩
        have := (rvf_zip (K := K) (H := H1) (p :: r) [] [] hb hi.2 (by simp [RVF]))
        rw [List.append_nil, List.append_nil] at this
        exact this.keep fun b o e _ => s b o e
    · rw [if_neg hi] at q1
      exact q1.elim
end

/-! ### joint -/
structure JHd (X : Cx) (S : List Nat) (hds : List ExceptHandler) (l : List Cl) (p : List PCl) : Prop where
  hd : HdG X hds l
  im : ClOk X.K X.mg S l p
section
variable {X : Cx} {W : WX} {S S1 S2 : List Nat}
theorem jh_nil : JHd X S [] [] [] := ⟨.nil, .nil⟩
theorem jh_cons {x : Str} {c : Value} {tab : List (Str × Bool)} {ts : Addr → Value → Option Addr → TS} {m : SM} {b₀ : Stmt} {suite : List Stmt} {np pos' : Pos} {hds : List ExceptHandler} {l : List Cl} {p : List PCl} (hc : Names X x c) (ht : TabOk X.K X.mg c tab)
    (hsu : ∀ (a : Addr) (oe : Obj) (cls : Value) (d : Option Addr) (pn : List (Addr × Obj)), JSs (X.suite a ((a, oe) :: pn)) (fun _ _ _ _ => False) S1 (b₀ :: suite) (ts a cls d) m) (hS : ∀ j ∈ S1, j ∈ S) (r : JHd X S hds l p) :
    JHd X S (.ExceptHandler (some (.Name x np)) none (b₀ :: suite) pos' :: hds) ((c, none, ts) :: l) ((tab, none, fun _ => m) :: p) :=
  ⟨.cons hc (fun a oe cls d pn _ _ => (hsu a oe cls d pn).ps) r.hd, .cons ht (fun j z => by cases z) (fun x a cls d D σ H env F h1 h2 _ _ h5 => ((hsu a default cls d []).im).mono hS D σ H env F h1 h2 h5) r.im⟩
theorem jh_as {x n : Str} (i : Nat) {c : Value} {tab : List (Str × Bool)} {ts : Addr → Value → Option Addr → TS} {m : SM} {b₀ : Stmt} {suite : List Stmt} {np pos' : Pos} {hds : List ExceptHandler} {l : List Cl} {p : List PCl} (hc : Names X x c) (ht : TabOk X.K X.mg c tab)
    (hsu : ∀ (a : Addr) (oe : Obj) (cls : Value) (d : Option Addr) (pn : List (Addr × Obj)), JSs (X.suite a ((a, oe) :: pn)) (fun _ _ _ _ => False) S1 (b₀ :: suite) (ts a cls d) m) (hS : ∀ j ∈ S1, j ∈ S) (hiS : i ∈ S) (r : JHd X S hds l p)
    (hN : X.N.Nodup) (hi : X.N[i]? = some n := by rfl) (hln : X.env.kindOf n = some .local := by rfl) :
    JHd X S (.ExceptHandler (some (.Name x np)) (some n) (b₀ :: suite) pos' :: hds) ((c, some i, ts) :: l) ((tab, some i, fun _ => m) :: p) :=
  ⟨.as hc hN hi hln (fun a oe cls d pn _ _ => (hsu a oe cls d pn).ps) r.hd, .cons ht (fun j z => by cases z; exact hiS) (fun x a cls d D σ H env F h1 h2 _ _ h5 => ((hsu a default cls d []).im).mono hS D σ H env F h1 h2 h5) r.im⟩
theorem takes_any {W' : WX} (hs : X.stack = X.env :: X.outer) (hf : X.env.frame = some X.env.locals) (pn : List (Addr × Obj)) :
    Takes (X.tr pn (fun e s₁ => wpAny (model X.prog X.w) X.A (noteFrame e X.env) (fun _ s₂ => wpAny (model X.prog X.w) X.A (setFlight e none) (fun _ _ => True) (fun _ _ => True) s₂) (fun _ _ => True) s₁)) W' := by
  intro u s' xx
  obtain ⟨a, B, sI, pins', σ', H', cls, d, rfl, J', nb, up, sky, na, os, ag, w⟩ := xx
  have ok : X.Ok := J'.ok.ofTry
  have hfr : X.A.frames = some (X.env :: X.outer) := by rw [ok.frames, hs]
  have sky' : Sky B (X.env :: X.outer) a (Zc cls d) X.env.locals s'.heap := by rw [← hs]; exact sky
  show wpAny (model X.prog X.w) X.A (noteFrame (.ref a) X.env) (fun _ s₂ => wpAny (model X.prog X.w) X.A (setFlight (.ref a) none) (fun _ _ => True) (fun _ _ => True) s₂) (fun _ _ => True) s'
  refine Sky.land Zc.steady hfr hf sky' fun h3 fl3 up3 => ?_
  exact True.intro
theorem js_try {body : List Stmt} {h₀ : ExceptHandler} {hds : List ExceptHandler} {l : List Cl} {p : List PCl} {pos : Pos} {tb : WX → TS} {bm : SM} (hs : X.stack = X.env :: X.outer) (hf : X.env.frame = some X.env.locals) (tk : Takes X W)
    (hb : ∀ (W' : WX) (pn : List (Addr × Obj)) (xe : Value → Shared → Prop), Takes (X.tr pn xe) W' → PassesOwn (model X.prog X.w) X.A X.env xe → JSs (X.tr pn xe) W' S1 body (tb W') bm) (hS : ∀ j ∈ S1, j ∈ S) (hh : JHd X S (h₀ :: hds) l p) :
    JS X W S (.Try body (h₀ :: hds) [] [] pos) (fun D σ H => tb (wGen X.K W D l) D σ H) (sTry bm p) :=
  ⟨ps_try_gen hs hf tk (fun W' pn xe t po => (hb W' pn xe t po).ps) hh.hd, im_sTry (fun W' => ((hb W' [] _ (takes_any hs hf []) PassesOwn.looking).im).mono hS) hh.im⟩
theorem js_raise {x : Str} {C fI : Addr} {ps : List Str} {k : Nat} {p pos pos' : Pos} {e : Expr} {es : List Expr} {ta : TA} {a : AM} (hc : X.calm = true) (tk : Takes X W) (T : SxTxt X.prog X.K X.mg x C fI ps) (hp : psOk ps = true) (hr : Room (k + 1) X.A) (hg : Gl X x) (ha : JA X W (e :: es) ta a)
    (hdb : (x == ("__debug__" : Str)) = false := by decide) (he : starEach (e :: es) X.env = (false, eval e X.env) :: starEach es X.env := by rfl) (hpl : (backTo pos (starEach es X.env)).any (·.1) = false := by rfl) :
    JS X W [] (.Raise (some (.Call (.Name x p) (e :: es) [] pos)) none pos') (fun _ σ H => tMkS C ps ta σ H fun cls d H' => W cls d σ H') (sRaise x ps a) := by
  refine ⟨ps_raise hc tk (t := tMkS C ps ta) ?_, im_sRaise T.gC ha.im⟩
  intro pins s σ H Q I h
  refine wpAny_Call_Name_kw (ld_glob I hg T.gC ?_ hdb)
  refine PySem.W.callWith_K (h₀ := X.base) I.ok.mod.kin T.kC (thn (ha.pa.run pos pins s σ H _ I h) fun us s1 ⟨vs, H1, I1, r1, hz, q1⟩ => ⟨I1.kIn, ?_⟩) he hpl
  exact mk_call T hp hr T.gsup I1 r1 hz q1
theorem js_raise0 {x : Str} {C fI : Addr} {k : Nat} {p pos pos' : Pos} (hc : X.calm = true) (tk : Takes X W) (T : SxTxt X.prog X.K X.mg x C fI []) (hr : Room (k + 1) X.A) (hg : Gl X x)
    (hdb : (x == ("__debug__" : Str)) = false := by decide) :
    JS X W [] (.Raise (some (.Call (.Name x p) [] [] pos)) none pos') (fun _ σ H => tMkS C [] tNil σ H fun cls d H' => W cls d σ H') (sRaise x [] aNil) := by
  refine ⟨ps_raise hc tk (t := tMkS C [] tNil) ?_, im_sRaise T.gC im_aNil⟩
  intro pins s σ H Q I h
  refine wpAny_Call_Name_kw (ld_glob I hg T.gC ?_ hdb)
  refine PySem.W.callWith_K0 I.kIn T.kC ?_
  exact mk_call T rfl hr T.gsup I .nil h.1 h.2
end
end PVL

/-! P7b: more joint rules; a def of the text as it is called. -/
namespace PVL
open PySem PySem.Spec L2
section
variable {X : Cx} {W : WX} {S S1 S2 : List Nat} {e a b c : Expr} {es : List Expr} {te ta tb : TE} {tA : TA} {m ma mb : EM} {ga gb : GM} {ra rb : RM} {am : AM} {pos p2 : Pos} {tg iter : Expr} {g : TG} {mt : TM} {tI : TI} {it : PEnv → EO (List PV)} {body : List Stmt} {t : TS} {sa : SM}
/-- a built-in type as a value -/
theorem j_ty {x : Str} {n : String} (hv : bootBuiltins x = some (.type n)) (hm : X.mg x = none) (hg : Gl X x := by rfl) (hn : x ≠ "__name__" := by decide) (hd : (x == ("__debug__" : Str)) = false := by decide) : JE X W (.Name x pos) (tC (.ty n)) (eC (.ty n)) := ⟨pe_bltn hg hm hv rfl hn hd, im_eTy⟩
structure JO (X : Cx) (W : WX) (e : Option Expr) (t : TO) (m : PEnv → EO (Option Int)) : Prop where
  po : PO X e t
  im : ImO X.K X.mg W t m
theorem jo_none : JO X W none tNoPart oNone := ⟨po_none, im_oNone⟩
theorem jo_some (h : JE X W e te m) : JO X W (some e) (tPart te) (oSome m) := ⟨po_some h.pe, im_oSome h.im⟩
theorem j_sl {lo hi : Option Expr} {tl th : TO} {ml mh : PEnv → EO (Option Int)} (h : JG X W e te ga) (hl : JO X W lo tl ml) (hh : JO X W hi th mh) : JE X W (.Subscript e (.Slice lo hi none p2) pos) (tSl (rSlP X.K) te tl th) (eSl pSl ga ml mh) := ⟨pe_slice sl_P h.pe hl.po hh.po, im_eSl sim_sl h.im hl.im hh.im⟩
theorem js_forVS {i : Nat} (hp : PassesOwn (model X.prog X.w) X.A X.env X.xe) (hc : X.calm = true) (hv : JR X iter (tVar i) (rVar i)) (hg : JP X S1 tg g mt) (hb : JSs X W S2 body t sa) (hi : i ∉ S1 ++ S2 := by decide) (hs : ∀ x, foldedSetIterable iter X.env x = pure x := by intro _; rfl) :
    JS X W (S1 ++ S2) (.For tg iter body [] pos) (tFor (fun σ H R => iList X.K (tVar i) σ H R ∨ iTup X.K (tVar i) σ H R) g t) (sForVS i mt sa) := ⟨ps_for hp hc (pi_or (pi_list hv.pe) (pi_tup hv.pe)) hg.pg hb.ps hs, im_sForVS hg.im hb.im hi⟩
theorem j_lcVS (i : Nat) {elt : Expr} {scope : Scope} {own : List (Str × Nat)} {tt : TT} {te : TE} {mc : BM} {me : EM} {ifs : List Expr} (hc : X.calm = true) (hN : X.N.Nodup) (hv : JR X iter (tVar i) (rVar i)) (ok : blkC X.N X.env.scope scope own = true)
    (hg : ∀ (s : Shared) (H : Hp) (C : Addr) (cl : List (Str × Addr)) (fp : List Addr), JP (X.blk s H scope (compEnvC scope cl C X.env) fp) S tg g mt) (hS : ∀ j ∈ S, j ∈ own.map (·.2))
    (ht : ∀ (s : Shared) (H : Hp) (C : Addr) (cl : List (Str × Addr)) (fp : List Addr), PTs (X.blk s H scope (compEnvC scope cl C X.env) fp) ifs tt ∧ ImT X.K X.mg W0 tt mc)
    (he : ∀ (s : Shared) (H : Hp) (C : Addr) (cl : List (Str × Addr)) (fp : List Addr), JE (X.blk s H scope (compEnvC scope cl C X.env) fp) W0 elt te me) (hs : ∀ x, foldedSetIterable iter X.env x = pure x := by intro _; rfl) :
    JE X W (.ListComp elt [⟨tg, iter, ifs, 0⟩] scope pos) (tLc (fun σ H R => iList X.K (tVar i) σ H R ∨ iTup X.K (tVar i) σ H R) g tt te (own.map (·.2))) (eLCVS i (own.map (·.2)) mt mc me) :=
  ⟨pe_lc hc hN (pi_or (pi_list hv.pe) (pi_tup hv.pe)) (blkOk_by ok) (fun s H C cl fp => (hg s H C cl fp).pg) (fun s H C cl fp => (ht s H C cl fp).1) (fun s H C cl fp => (he s H C cl fp).pe) hs,
    im_eLCVS (hg X.s_0 X.H_0 0 [] []).im hS (ht X.s_0 X.H_0 0 [] []).2 (he X.s_0 X.H_0 0 [] []).im⟩
theorem js_setLcVS (i k : Nat) {y : Str} {py : Pos} {elt : Expr} {scope : Scope} {own : List (Str × Nat)} {pos spos : Pos} {tt : TT} {te : TE} {mc : BM} {me : EM} {ifs : List Expr} (hc : X.calm = true) (hN : X.N.Nodup) (hv : JR X iter (tVar k) (rVar k)) (ok : blkC X.N X.env.scope scope own = true)
    (hg : ∀ (s : Shared) (H : Hp) (C : Addr) (cl : List (Str × Addr)) (fp : List Addr), JP (X.blk s H scope (compEnvC scope cl C X.env) fp) S tg g mt) (hS : ∀ j ∈ S, j ∈ own.map (·.2))
    (ht : ∀ (s : Shared) (H : Hp) (C : Addr) (cl : List (Str × Addr)) (fp : List Addr), PTs (X.blk s H scope (compEnvC scope cl C X.env) fp) ifs tt ∧ ImT X.K X.mg W0 tt mc)
    (he : ∀ (s : Shared) (H : Hp) (C : Addr) (cl : List (Str × Addr)) (fp : List Addr), JE (X.blk s H scope (compEnvC scope cl C X.env) fp) W0 elt te me) (hy : X.N[i]? = some y := by rfl) (hyl : X.env.scope.names.lookup y = some .local := by rfl)
    (hsw : swapsWith (.ListComp elt [⟨tg, iter, ifs, 0⟩] scope pos) (some (.Name y py)) spos.line X.env = pure true := by exact sw_true rfl rfl rfl (by decide +kernel)) (hs : ∀ x, foldedSetIterable iter X.env x = pure x := by intro _; rfl) :
    JS X W [i] (.Assign [.Name y py] (.ListComp elt [⟨tg, iter, ifs, 0⟩] scope pos) spos) (tAsg (tLc (fun σ H R => iList X.K (tVar k) σ H R ∨ iTup X.K (tVar k) σ H R) g tt te (own.map (·.2))) (gName i)) (sAsg (eLCVS k (own.map (·.2)) mt mc me) (tgN i)) :=
  ⟨ps_setLc hc hN hy hyl hsw (pi_or (pi_list hv.pe) (pi_tup hv.pe)) (blkOk_by ok) (fun s H C cl fp => (hg s H C cl fp).pg) (fun s H C cl fp => (ht s H C cl fp).1) (fun s H C cl fp => (he s H C cl fp).pe) hs,
    im_sAsg (im_eLCVS (hg X.s_0 X.H_0 0 [] []).im hS (ht X.s_0 X.H_0 0 [] []).2 (he X.s_0 X.H_0 0 [] []).im) (im_tgN i)⟩
end
/-- a def as it is called: by its name, within so much room, as the pure function -/
def Cal (P : Program) (w : World) (K : PySem.W.Frag) (mg : Str → Option Value) (base : Heap) (x : Str) (k n : Nat) (fm : FM) : Prop :=
  ∃ (f : Addr) (fd : FuncData) (ps : List Str), FnOk P w K mg base (L2.CX P w) k f fd ps (spF K mg n fm) ∧ mg x = some (.ref f) ∧ PySem.W.keepIn K (.ref f) = true ∧ Binds K fd ps []
section
variable {X : Cx} {W : WX} {e : Expr} {es : List Expr} {tA : TA} {am : AM} {pos : Pos}
theorem j_fn {x : Str} {k n : Nat} {fm : FM} {p : Pos} (c : Cal X.prog X.w X.K X.mg X.base x k n fm) (hr : Room k X.A) (tk : Takes X W) (ha : JA X W (e :: es) tA am) (hl : (e :: es).length = n := by rfl) (hg : Gl X x := by rfl) (hdb : (x == ("__debug__" : Str)) = false := by decide)
    (he : starEach (e :: es) X.env = (false, eval e X.env) :: starEach es X.env := by rfl) (hpl : (backTo pos (starEach es X.env)).any (·.1) = false := by rfl) :
    JE X W (.Call (.Name x p) (e :: es) [] pos) (tCallS (spF X.K X.mg n fm) (WE W) tA) (eCall fm am) := by
  obtain ⟨f, fd, ps, F, hm, hk, hb⟩ := c
  exact j_call F hr hm hk hb tk ha hl hg hdb he hpl
end
theorem hu64 {k : Nat} {A : Around} (h : Room k A) : A.units + 64 < cLine := h.units
theorem hu65 {k : Nat} {A : Around} (h : Room k A) : A.units + 65 < cLine := by have := h.un; omega
/-- the def that has no fuel -/
def fBad : FM := fun _ => .bad
section
variable {P : Program} {w : World} {K : PySem.W.Frag} {mg : Str → Option Value} {base : Heap}
theorem cal_of {x qual : Str} {st : Stmt} {f : Addr} {fd : FuncData} {N ps : List Str} {k n m : Nat} {asg S : List Nat} {body : SM} (F : L2.Fun K x qual st f fd) (hm : mg x = some (.ref f)) (hb : Binds K fd ps []) (sc : FnScope N ps (defScope st)) (hn : ps.length = n) (hN : N.length = m)
    (hJ : ∀ (cdv : Value) (A : Around) (outer : List Env) (s : Shared) (H : Hp) (E : XK), Room k (A.deeper (PyProof.Rows.envOfC qual (defScope st) s.heap.objs.size f cdv)) →
      ∃ t, JSs (cxOf (L2.CX P w) P w K mg base N qual (defScope st) f cdv A outer s H E) (fun cls d _ H => E cls d H) S (defBody st) t body) (hS : ∀ j ∈ S, j < n → j ∈ asg) :
    Cal P w K mg base x (k + 1) n (fnM n m asg body) :=
  ⟨f, fd, ps, F.okX sc (spF_len hn) (fun cdv A outer s H vs Q E hr h => by
    obtain ⟨t, J⟩ := hJ cdv A outer s H E hr
    exact ⟨t, J.ps, im_fn (K := K) (mg := mg) hN hS J.im h⟩), hm, F.kp, hb⟩
theorem cal_mono {x : Str} {j k n : Nat} {fm : FM} (c : Cal P w K mg base x j n fm) (h : j ≤ k) : Cal P w K mg base x k n fm := by
  obtain ⟨f, fd, ps, F, r⟩ := c
  exact ⟨f, fd, ps, F.mono h, r⟩
theorem cal_bad {x qual : Str} {st : Stmt} {f : Addr} {fd : FuncData} {N ps : List Str} {k n : Nat} (F : L2.Fun K x qual st f fd) (hm : mg x = some (.ref f)) (hb : Binds K fd ps []) (sc : FnScope N ps (defScope st)) (hn : ps.length = n) :
    Cal P w K mg base x (k + 1) n fBad :=
  ⟨f, fd, ps, F.okX sc (spF_len hn) (fun cdv A outer s H vs Q E hr h => by
    obtain ⟨_, _, _, _, _, z⟩ := h
    exact z.elim), hm, F.kp, hb⟩
end
end PVL

/-! P7c: the end: tables of caught classes, the law's def, the whole. -/
namespace PVL
open PySem PySem.Spec L2
section
variable {K : PySem.W.Frag} {mg : Str → Option Value}
theorem tab_nil {c : Value} : TabOk K mg c [] := fun n b cls h => by cases h
theorem tab_cons {c : Value} {n : Str} {b : Bool} {C : Addr} {r : List (Str × Bool)} (hm : mg n = some (.ref C)) (he : PySem.W.exmOne K (.ref C) c = some b) (h : TabOk K mg c r) : TabOk K mg c ((n, b) :: r) := fun m d cls h1 h2 => by
  rw [SXE.lput] at h1
  by_cases e : m = n
  · rw [if_pos e] at h1
    cases h1
    rw [e, hm] at h2
    cases h2
    exact he
  · rw [if_neg e] at h1
    exact h m d cls h1 h2
theorem exm_of {S : Addr} {cls : Value} {b : Bool} (h1 : PySem.W.subIn K (.ref S) (.type "BaseException") = some true) (h2 : PySem.W.isClsIn K S = true) (h3 : PySem.W.typeIn K (.ref S) = some (.type "type")) (h4 : PySem.W.subIn K cls (.ref S) = some b) :
    PySem.W.exmOne K cls (.ref S) = some b := by
  have e1 : (PySem.W.subIn K (.ref S) (.type "BaseException") == some true) = true := by rw [h1] <;> rfl
  have e2 : ((PySem.W.clsIn K S).isSome && PySem.W.typeIn K (.ref S) == some (.type "type")) = true := by
    have h2' : (PySem.W.clsIn K S).isSome = true := h2
    rw [h2', h3] <;> rfl
  show (if (PySem.W.subIn K (.ref S) (.type "BaseException") == some true) = true then (if ((PySem.W.clsIn K S).isSome && PySem.W.typeIn K (.ref S) == some (.type "type")) = true then PySem.W.subIn K cls (.ref S) else none) else none) = some b
  rw [if_pos e1, if_pos e2]
  exact h4
variable {P : Program} {w : World} {base : Heap}
theorem fnok_of {x qual : Str} {st : Stmt} {f : Addr} {fd : FuncData} {N ps : List Str} {k n m : Nat} {asg S : List Nat} {body : SM} (F : L2.Fun K x qual st f fd) (sc : FnScope N ps (defScope st)) (hn : ps.length = n) (hN : N.length = m)
    (hJ : ∀ (cdv : Value) (A : Around) (outer : List Env) (s : Shared) (H : Hp) (E : XK), Room k (A.deeper (PyProof.Rows.envOfC qual (defScope st) s.heap.objs.size f cdv)) →
      ∃ t, JSs (cxOf (L2.CX P w) P w K mg base N qual (defScope st) f cdv A outer s H E) (fun cls d _ H => E cls d H) S (defBody st) t body) (hS : ∀ j ∈ S, j < n → j ∈ asg) :
    FnOk P w K mg base (L2.CX P w) (k + 1) f fd ps (spF K mg n (fnM n m asg body)) :=
  F.okX sc (spF_len hn) (fun cdv A outer s H vs Q E hr h => by
    obtain ⟨t, J⟩ := hJ cdv A outer s H E hr
    exact ⟨t, J.ps, im_fn (K := K) (mg := mg) hN hS J.im h⟩)
end
/-- the law's promise -/
def spLaw (K : PySem.W.Frag) : Sp := fun vs H Q _ => ∃ (a : Addr) (ns : List Int), vs = [.ref a] ∧ ns.length ≤ 63 ∧ SqF K H a (ns.map V.int) ∧ ∀ H', Q (.bl true) H'
theorem rvl_ints {K : PySem.W.Frag} {H : Hp} : ∀ ns : List Int, RVL K H (ns.map PV.int) (ns.map V.int) []
  | [] => by simp [RVL]
  | n :: r => by
    simp only [List.map_cons, RVL]
    exact ⟨_, _, [], [], rfl, by simp [RV], rvl_ints r, rfl⟩
theorem sp_law {K : PySem.W.Frag} {mg : Str → Option Value} {m : FM} (hm : ∀ ns : List Int, ns.length ≤ 63 → ∃ e, m [.frz (ns.map PV.int)] = .ok (.bl true) e) : ∀ vs H Q E, spLaw K vs H Q E → spF K mg 1 m vs H Q E := by
  rintro vs H Q E ⟨a, ns, rfl, hl, hS, hq⟩
  obtain ⟨e, he⟩ := hm ns hl
  refine ⟨[.frz (ns.map PV.int)], [], rfl, ?_, List.nodup_nil, ?_⟩
  · simp only [RVL]
    exact ⟨_, _, [], [], rfl, by simp only [RV]; exact ⟨a, _, rfl, hS, by simpa using rvl_ints ns⟩, ⟨rfl, rfl⟩, rfl⟩
  · rw [he]
    intro v H' Fv Fp h1 _ _ _
    simp only [RV] at h1
    rw [h1.1]
    exact hq H'
theorem cx_none {P : Program} {w : World} {H : Hp} {s : Shared} {e : Value} {s' : Shared} (h : L2.CX P w [] H s (fun _ _ _ => False) e s') : False := by
  obtain ⟨_, _, _, _, _, _, _, _, _, _, _, _, z⟩ := h
  exact z
theorem law_walk {l : PySem.W.OpenLaw} {k : Nat} {m : FM} {q : Program} {loose : List Str} {XP : (Str → Option Value) → Heap → Prop} {YP : World → Heap → Prop} {d : DefRec} {K : Params → PySem.W.Frag} (hn : l.most = some 63) (hdf : d.params.defaults = []) (hr : Room k callerA)
    (hY : ∀ (w : World) (h : Heap), YP w h → (K w.params).In h)
    (F : ∀ (w : World) (mg : Str → Option Value) (fa : Addr) (h : Heap), (K w.params).In h → h.Ns mainGlobals mg → mg d.name = some (.ref fa) →
      ∃ fd : FuncData, (∀ (s : Shared) (u : Value), BindsTo s fd ⟨[u], []⟩ [("script", u)]) ∧
        ∀ base : Heap, (K w.params).In base → base.Ns mainGlobals mg → FnOk l.prog w (K w.params) mg base (L2.CX l.prog w) k fa fd ["script"] (spF (K w.params) mg 1 m))
    (hm : ∀ ns : List Int, ns.length ≤ 63 → ∃ e, m [.frz (ns.map PV.int)] = .ok (.bl true) e) :
    PySem.W.WalkO q loose XP YP l.row.toRowW d [] (fun f vs => PySem.call f vs) := by
  refine L2.walk_of (n := 63) (k := k) (x := "script") (CX := fun w => L2.CX l.prog w) (sp := fun w => spLaw (K w.params)) hn (by decide) hdf hr hY (fun w mg fa h KX G hmg => ?_) (fun w H a ns hl hO hS => ?_) fun _ _ _ _ _ z => cx_none z
  · obtain ⟨fd, hb, hF⟩ := F w mg fa h KX G hmg
    exact ⟨fd, hb, fun base b1 b2 => (hF base b1 b2).imp (sp_law hm)⟩
  · refine ⟨a, ns, rfl, hl, ?_, fun _ => rfl⟩
    rcases hS with h | h
    · rcases h with h | ⟨o, h⟩
      · rcases hO a with z | ⟨o, xs, z⟩
        · rw [z] at h; cases h
        · rw [z] at h; cases h
      · exact .inl ⟨o, h⟩
    · exact .inr h
end PVL

/-! P7d: the joint rules whose reading names the written part, the part given. -/
namespace PVL
open PySem PySem.Spec L2
section
variable {X : Cx} {W : WX} {S S1 S2 : List Nat} {e a b c : Expr} {es : List Expr} {te ta tb : TE} {tA : TA} {m ma mb : EM} {ga gb : GM} {ra rb : RM} {am : AM} {pos p2 : Pos} {tg iter : Expr} {g : TG} {mt : TM} {tI : TI} {it : PEnv → EO (List PV)} {body : List Stmt} {t : TS} {sa : SM}
variable (K : PySem.W.Frag)
theorem k_fn (mg : Str → Option Value) {x : Str} {k n : Nat} {fm : FM} {p : Pos} (c : Cal X.prog X.w K mg X.base x k n fm) (hr : Room k X.A) (tk : Takes X W) (ha : JA X W (e :: es) tA am) (hK : X.K = K := by rfl) (hmg : X.mg = mg := by rfl) (hl : (e :: es).length = n := by rfl) (hg : Gl X x := by rfl) (hdb : (x == ("__debug__" : Str)) = false := by decide)
    (he : starEach (e :: es) X.env = (false, eval e X.env) :: starEach es X.env := by rfl) (hpl : (backTo pos (starEach es X.env)).any (·.1) = false := by rfl) :
    JE X W (.Call (.Name x p) (e :: es) [] pos) (tCallS (spF K mg n fm) (WE W) tA) (eCall fm am) := by
  subst hK
  subst hmg
  exact j_fn c hr tk ha hl hg hdb he hpl
theorem k_sl {lo hi : Option Expr} {tl th : TO} {ml mh : PEnv → EO (Option Int)} (h : JG X W e te ga) (hl : JO X W lo tl ml) (hh : JO X W hi th mh) (hK : X.K = K := by rfl) : JE X W (.Subscript e (.Slice lo hi none p2) pos) (tSl (rSlP K) te tl th) (eSl pSl ga ml mh) := by
  subst hK
  exact j_sl h hl hh
theorem k_s (h : JE X W e te m) (hK : X.K = K := by rfl) : JI X W tg e (fun σ H R => iList K te σ H R ∨ iTup K te σ H R) (itS m) := by
  subst hK
  exact ji_s h
theorem k_t {k n : Nat} {tgs : TGs} {mts : List PV → PEnv → Option PEnv} (hc : X.calm = true) (r : JPs X S es tgs mts) (hK : X.K = K := by rfl) (hn : (assignEach es X.env).length = n := by rfl) (hst : (assignEach es X.env).findIdx? (·.1) = none := by rfl) : JP X S (.Tuple es k pos) (gTup K n tgs) (tgT n mts) := by
  subst hK
  exact jp_t hc r hn hst
theorem k_meth {T id : String} {name x : Str} {i : Nat} {r : V → List V → Hp → VK → Prop} {f : PV → List PV → Option (PV × PV)} {apos p : Pos} (pa : PlainAttrs T) (slot : Slot T name id) (hty : typeOf (.builtin id) = pure (.type "method_descriptor")) (hs : SimM K r f) (hm : MtR X id r) (ho : JR X (.Name x p) (tVar i) (rVar i)) (ha : JA X W (e :: es) tA am)
    (hK : X.K = K := by rfl) (hbase : attributeBase (.Name x p) name X.env (eval (.Name x p) X.env) = eval (.Name x p) X.env := by rfl)
    (hfew : ((backTo pos (starEach (e :: es) X.env)).all (fun x => !x.1) && (backToKw pos (keywordEach [] X.env)).all (fun x => x.1.isSome)
      && decide ((e :: es).length + ([] : List Keyword).length + (if ([] : List Keyword).isEmpty then 0 else 1) < 30)) = true := by rfl)
    (hline : (apos.endLine == pos.line) = true := by rfl) (hs' : starEach (e :: es) X.env = (false, eval e X.env) :: starEach es X.env := by rfl) (hplain : (backTo pos (starEach es X.env)).any (·.1) = false := by rfl) :
    JE X W (.Call (.Attribute (.Name x p) name apos) (e :: es) [] pos) (tBM K T r (tVar i) tA) (eMeth T i f am) := by
  subst hK
  exact j_meth pa slot hty hs hm ho ha hbase hfew hline hs' hplain
theorem k_methB {T id : String} {name x : Str} {i : Nat} {r : V → List V → Hp → VK → Prop} {f : PV → List PV → Option (PV × PV)} {apos p : Pos} (pa : PlainAttrs T) (slot : Slot T name id) (hty : typeOf (.builtin id) = pure (.type "method_descriptor")) (hs : SimMB K r f) (hm : MtR X id r) (ho : JR X (.Name x p) (tVar i) (rVar i)) (ha : JA X W (e :: es) tA am)
    (hK : X.K = K := by rfl) (hbase : attributeBase (.Name x p) name X.env (eval (.Name x p) X.env) = eval (.Name x p) X.env := by rfl)
    (hfew : ((backTo pos (starEach (e :: es) X.env)).all (fun x => !x.1) && (backToKw pos (keywordEach [] X.env)).all (fun x => x.1.isSome)
      && decide ((e :: es).length + ([] : List Keyword).length + (if ([] : List Keyword).isEmpty then 0 else 1) < 30)) = true := by rfl)
    (hline : (apos.endLine == pos.line) = true := by rfl) (hs' : starEach (e :: es) X.env = (false, eval e X.env) :: starEach es X.env := by rfl) (hplain : (backTo pos (starEach es X.env)).any (·.1) = false := by rfl) :
    JE X W (.Call (.Attribute (.Name x p) name apos) (e :: es) [] pos) (tBM K T r (tVar i) tA) (eMethB T i f am) := by
  subst hK
  exact j_methB pa slot hty hs hm ho ha hbase hfew hline hs' hplain
theorem k_forVS {i : Nat} (hp : PassesOwn (model X.prog X.w) X.A X.env X.xe) (hc : X.calm = true) (hv : JR X iter (tVar i) (rVar i)) (hg : JP X S1 tg g mt) (hb : JSs X W S2 body t sa) (hK : X.K = K := by rfl) (hi : i ∉ S1 ++ S2 := by decide) (hs : ∀ x, foldedSetIterable iter X.env x = pure x := by intro _; rfl) :
    JS X W (S1 ++ S2) (.For tg iter body [] pos) (tFor (fun σ H R => iList K (tVar i) σ H R ∨ iTup K (tVar i) σ H R) g t) (sForVS i mt sa) := by
  subst hK
  exact js_forVS hp hc hv hg hb hi hs
theorem k_lcVS (mg : Str → Option Value) (i : Nat) {elt : Expr} {scope : Scope} {own : List (Str × Nat)} {tt : TT} {te : TE} {mc : BM} {me : EM} {ifs : List Expr} (hc : X.calm = true) (hN : X.N.Nodup) (hv : JR X iter (tVar i) (rVar i)) (ok : blkC X.N X.env.scope scope own = true)
    (hg : ∀ (s : Shared) (H : Hp) (C : Addr) (cl : List (Str × Addr)) (fp : List Addr), JP (X.blk s H scope (compEnvC scope cl C X.env) fp) S tg g mt) (hS : ∀ j ∈ S, j ∈ own.map (·.2))
    (ht : ∀ (s : Shared) (H : Hp) (C : Addr) (cl : List (Str × Addr)) (fp : List Addr), PTs (X.blk s H scope (compEnvC scope cl C X.env) fp) ifs tt ∧ ImT K mg W0 tt mc)
    (he : ∀ (s : Shared) (H : Hp) (C : Addr) (cl : List (Str × Addr)) (fp : List Addr), JE (X.blk s H scope (compEnvC scope cl C X.env) fp) W0 elt te me) (hK : X.K = K := by rfl) (hmg : X.mg = mg := by rfl) (hs : ∀ x, foldedSetIterable iter X.env x = pure x := by intro _; rfl) :
    JE X W (.ListComp elt [⟨tg, iter, ifs, 0⟩] scope pos) (tLc (fun σ H R => iList K (tVar i) σ H R ∨ iTup K (tVar i) σ H R) g tt te (own.map (·.2))) (eLCVS i (own.map (·.2)) mt mc me) := by
  subst hK
  subst hmg
  exact j_lcVS i hc hN hv ok hg hS ht he hs
theorem k_setLcVS (mg : Str → Option Value) (i k : Nat) {y : Str} {py : Pos} {elt : Expr} {scope : Scope} {own : List (Str × Nat)} {pos spos : Pos} {tt : TT} {te : TE} {mc : BM} {me : EM} {ifs : List Expr} (hc : X.calm = true) (hN : X.N.Nodup) (hv : JR X iter (tVar k) (rVar k)) (ok : blkC X.N X.env.scope scope own = true)
    (hg : ∀ (s : Shared) (H : Hp) (C : Addr) (cl : List (Str × Addr)) (fp : List Addr), JP (X.blk s H scope (compEnvC scope cl C X.env) fp) S tg g mt) (hS : ∀ j ∈ S, j ∈ own.map (·.2))
    (ht : ∀ (s : Shared) (H : Hp) (C : Addr) (cl : List (Str × Addr)) (fp : List Addr), PTs (X.blk s H scope (compEnvC scope cl C X.env) fp) ifs tt ∧ ImT K mg W0 tt mc)
    (he : ∀ (s : Shared) (H : Hp) (C : Addr) (cl : List (Str × Addr)) (fp : List Addr), JE (X.blk s H scope (compEnvC scope cl C X.env) fp) W0 elt te me) (hK : X.K = K := by rfl) (hmg : X.mg = mg := by rfl) (hy : X.N[i]? = some y := by rfl) (hyl : X.env.scope.names.lookup y = some .local := by rfl)
    (hsw : swapsWith (.ListComp elt [⟨tg, iter, ifs, 0⟩] scope pos) (some (.Name y py)) spos.line X.env = pure true := by exact sw_true rfl rfl rfl (by decide +kernel)) (hs : ∀ x, foldedSetIterable iter X.env x = pure x := by intro _; rfl) :
    JS X W [i] (.Assign [.Name y py] (.ListComp elt [⟨tg, iter, ifs, 0⟩] scope pos) spos) (tAsg (tLc (fun σ H R => iList K (tVar k) σ H R ∨ iTup K (tVar k) σ H R) g tt te (own.map (·.2))) (gName i)) (sAsg (eLCVS k (own.map (·.2)) mt mc me) (tgN i)) := by
  subst hK
  subst hmg
  exact js_setLcVS i k hc hN hv ok hg hS ht he hy hyl hsw hs
theorem k_try (mg : Str → Option Value) {body : List Stmt} {h₀ : ExceptHandler} {hds : List ExceptHandler} {l : List Cl} {p : List PCl} {pos : Pos} {tb : WX → TS} {bm : SM} (hs : X.stack = X.env :: X.outer) (hf : X.env.frame = some X.env.locals) (tk : Takes X W)
    (hb : ∀ (W' : WX) (pn : List (Addr × Obj)) (xe : Value → Shared → Prop), Takes (X.tr pn xe) W' → PassesOwn (model X.prog X.w) X.A X.env xe → JSs (X.tr pn xe) W' S1 body (tb W') bm) (hS : ∀ j ∈ S1, j ∈ S) (hh : JHd X S (h₀ :: hds) l p) (hK : X.K = K := by rfl) :
    JS X W S (.Try body (h₀ :: hds) [] [] pos) (fun D σ H => tb (wGen K W D l) D σ H) (sTry bm p) := by
  subst hK
  exact js_try hs hf tk hb hS hh
end
end PVL

/-! P7e: operations and built-in calls upon what is only read. -/
namespace PVL
open PySem PySem.Spec L2
def raNil : PEnv → Option (List PV) := fun _ => some []
def raCons (r : RM) (a : PEnv → Option (List PV)) : PEnv → Option (List PV) := fun env => (r env).bind fun x => (a env).bind fun xs => some (x :: xs)
def rCl (f : List PV → Option PV) (a : PEnv → Option (List PV)) : RM := fun env => (a env).bind f
/-- an operation upon read operands: what comes is new -/
def eN (r : RM) : EM := fun env => ofO (r env) env
def ImRA (K : PySem.W.Frag) (t : TA) (m : PEnv → Option (List PV)) : Prop := ∀ σ H Q env F, RE K H env σ F →
  (match m env with | some ps => ∀ vs H', Sm H H' → RB K H' ps vs → Q vs H' | none => False) → t σ H Q
theorem RB.sm {K : PySem.W.Frag} {H H' : Hp} (s : Sm H H') : ∀ {ps : List PV} {vs : List V}, RB K H ps vs → RB K H' ps vs
  | [], _, h => h
  | p :: ps, _, h => by
    simp only [RB] at h ⊢
    obtain ⟨v, vr, F, e, h1, h2⟩ := h
    exact ⟨v, vr, F, e, h1.sm s, RB.sm s h2⟩
section
variable {K : PySem.W.Frag} {mg : Str → Option Value} {W : WX}
theorem im_raNil : ImRA K tNil raNil := fun σ H Q env F hr hp => hp [] H (fun _ _ z => z) rfl
theorem im_raCons {ta : TE} {tA : TA} {r : RM} {a : PEnv → Option (List PV)} (h : ImR K ta r) (g : ImRA K tA a) : ImRA K (tCons ta tA) (raCons r a) := by
  intro σ H Q env F hr hp
  unfold raCons at hp
  refine h σ H _ env F hr ?_
  cases er : r env with
  | none => rw [er] at hp; exact hp
  | some x =>
    rw [er] at hp
    intro v H1 Fv s1 rx
    refine g σ H1 _ env F (hr.sm s1) ?_
    cases ea : a env with
    | none => rw [ea] at hp; exact hp
    | some xs =>
      rw [ea] at hp
      intro vs H2 s2 rb
      exact hp (v :: vs) H2 (s1.trans s2) ⟨v, vs, Fv, rfl, rx.sm s2, rb⟩
theorem im_rCl {r : List V → Hp → VK → Prop} {f : List PV → Option PV} {ta : TA} {a : PEnv → Option (List PV)} (hs : SimL K r f) (ha : ImRA K ta a) : ImR K (fun σ H Q => ta σ H fun vs H1 => r vs H1 Q) (rCl f a) := by
  intro σ H Q env F hr hp
  unfold rCl at hp
  refine ha σ H _ env F hr ?_
  cases ea : a env with
  | none => rw [ea] at hp; exact hp
  | some ps =>
    rw [ea] at hp
    intro vs H1 s1 rb
    refine hs vs H1 Q ps rb ?_
    cases ef : f ps with
    | none => rw [Option.bind_some, ef] at hp; exact hp.elim
    | some z =>
      rw [Option.bind_some, ef] at hp
      exact fun v H2 Fz s r _ _ => hp v H2 Fz (s1.trans s) r
theorem im_eN_cl {r : List V → Hp → VK → Prop} {f : List PV → Option PV} {ta : TA} {a : PEnv → Option (List PV)} (hs : SimL K r f) (ha : ImRA K ta a) : ImE K mg W (fun σ H Q => ta σ H fun vs H1 => r vs H1 Q) (eN (rCl f a)) := by
  intro σ H Q env F hr hn hp
  unfold eN rCl at hp
  refine ha σ H _ env F hr ?_
  cases ea : a env with
  | none => rw [ea] at hp; exact hp.elim
  | some ps =>
    rw [ea] at hp
    intro vs H1 s1 rb
    exact hs vs H1 Q ps rb (fin_new (hr.sm s1) hn (Fm.of_sm s1 fun _ z => .inl z) hp)
theorem im_eN_op {r : R2} {f : PV → PV → Option PV} {ta tb : TE} {ra rb : RM} (hs : SimR2 K r f) (ha : ImR K ta ra) (hb : ImR K tb rb) : ImE K mg W (tOp r ta tb) (eN (rOp f ra rb)) := by
  intro σ H Q env F hr hn hp
  unfold eN rOp at hp
  refine ha σ H _ env F hr ?_
  cases ea : ra env with
  | none => rw [ea] at hp; exact hp.elim
  | some x =>
    rw [ea] at hp
    intro v H1 Fv s1 rx
    refine hb σ H1 _ env F (hr.sm s1) ?_
    cases eb : rb env with
    | none => rw [eb] at hp; exact hp.elim
    | some y =>
      rw [eb] at hp
      intro u H2 Fu s2 ry
      exact hs v u H2 Q x y Fv Fu (rx.sm s2) ry (fin_new (hr.sm (s1.trans s2)) hn (Fm.of_sm (s1.trans s2) fun _ z => .inl z) hp)
theorem im_eN_un {r : V → Hp → VK → Prop} {f : PV → Option PV} {ta : TE} {ra : RM} (hs : SimU K r f) (ha : ImR K ta ra) : ImE K mg W (tUn r ta) (eN (rUn f ra)) := by
  intro σ H Q env F hr hn hp
  unfold eN rUn at hp
  refine ha σ H _ env F hr ?_
  cases ea : ra env with
  | none => rw [ea] at hp; exact hp.elim
  | some x =>
    rw [ea] at hp
    intro v H1 Fv s1 rx
    exact hs v H1 Q x Fv rx (fin_new (hr.sm s1) hn (Fm.of_sm s1 fun _ z => .inl z) hp)
end
structure JRA (X : Cx) (es : List Expr) (t : TA) (m : PEnv → Option (List PV)) : Prop where
  pa : PA X es t
  im : ImRA X.K t m
section
variable {X : Cx} {W : WX} {e a b : Expr} {es : List Expr} {te ta tb : TE} {tA : TA} {ra rb : RM} {am : PEnv → Option (List PV)} {pos : Pos}
theorem jra_nil : JRA X [] tNil raNil := ⟨pa_nil, im_raNil⟩
theorem jra_cons (h : JR X e te ra) (r : JRA X es tA am) (hs : starEach (e :: es) X.env = (false, eval e X.env) :: starEach es X.env := by rfl) : JRA X (e :: es) (tCons te tA) (raCons ra am) := ⟨pa_cons h.pe r.pa hs, im_raCons h.im r.im⟩
theorem jr_ty {x : Str} {n : String} (hv : bootBuiltins x = some (.type n)) (hm : X.mg x = none) (hg : Gl X x := by rfl) (hn : x ≠ "__name__" := by decide) (hd : (x == ("__debug__" : Str)) = false := by decide) : JR X (.Name x pos) (tC (.ty n)) (rC (.ty n)) :=
  ⟨pe_bltn hg hm hv rfl hn hd, fun σ H Q env F hr hp => hp (.ty n) H [] (fun _ _ z => z) (by simp [RV])⟩
theorem jr_cmp {op : CmpOp} {r : R2} {f : PV → PV → Option PV} (hs : SimR2 X.K r f) (ho : OpR X (compareOp op) r) (hm : behindInMarks op b = false) (ha : JR X a ta ra) (hb : JR X b tb rb) : JR X (.Compare a [op] [b] pos) (tOp r ta tb) (rOp f ra rb) := ⟨pe_cmpR ho ha.pe hb.pe hm, im_rOp hs.b ha.im hb.im⟩
theorem jr_callB {x : Str} {p : Pos} {id : String} {r : List V → Hp → VK → Prop} {f : List PV → Option PV} (hs : SimL X.K r f) (hc : CallR X (.builtin id) r) (hv : bootBuiltins x = some (.builtin id)) (hm : X.mg x = none) (ha : JRA X (e :: es) tA am) (hg : Gl X x := by rfl) (hn : x ≠ "__name__" := by decide) (hdb : (x == ("__debug__" : Str)) = false := by decide)
    (he : starEach (e :: es) X.env = (false, eval e X.env) :: starEach es X.env := by rfl) (hpl : (backTo pos (starEach es X.env)).any (·.1) = false := by rfl) : JR X (.Call (.Name x p) (e :: es) [] pos) (tCB r tA) (rCl f am) := ⟨pe_callB hc hg hm hv ha.pa hn hdb he hpl, im_rCl hs ha.im⟩
theorem jr_callTy {x : Str} {p : Pos} {T : String} {r : List V → Hp → VK → Prop} {f : List PV → Option PV} (hs : SimL X.K r f) (hc : CallR X (.type T) r) (hv : bootBuiltins x = some (.type T)) (hm : X.mg x = none) (ha : JRA X (e :: es) tA am) (hg : Gl X x := by rfl) (hn : x ≠ "__name__" := by decide) (hdb : (x == ("__debug__" : Str)) = false := by decide)
    (he : starEach (e :: es) X.env = (false, eval e X.env) :: starEach es X.env := by rfl) (hpl : (backTo pos (starEach es X.env)).any (·.1) = false := by rfl) : JR X (.Call (.Name x p) (e :: es) [] pos) (tCB r tA) (rCl f am) := ⟨pe_callTy hc hg hm hv ha.pa hn hdb he hpl, im_rCl hs ha.im⟩
theorem jn_op {op : Operator} {r : R2} {f : PV → PV → Option PV} (hs : SimR2 X.K r f) (ho : OpR X (binaryOp op) r) (ha : JR X a ta ra) (hb : JR X b tb rb) : JE X W (.BinOp a op b pos) (tOp r ta tb) (eN (rOp f ra rb)) := ⟨pe_op ho ha.pe hb.pe, im_eN_op hs ha.im hb.im⟩
theorem jn_un {op : UnaryOp} {r : V → Hp → VK → Prop} {f : PV → Option PV} (hs : SimU X.K r f) (ho : UnR X (unaryOp op) r) (ha : JR X a ta ra) : JE X W (.UnaryOp op a pos) (tUn r ta) (eN (rUn f ra)) := ⟨pe_un ho ha.pe, im_eN_un hs ha.im⟩
theorem jn_cmp {op : CmpOp} {r : R2} {f : PV → PV → Option PV} (hs : SimR2 X.K r f) (ho : OpR X (compareOp op) r) (hm : behindInMarks op b = false) (ha : JR X a ta ra) (hb : JR X b tb rb) : JE X W (.Compare a [op] [b] pos) (tOp r ta tb) (eN (rOp f ra rb)) := ⟨pe_cmpR ho ha.pe hb.pe hm, im_eN_op hs ha.im hb.im⟩
theorem jnt_cmp {op : CmpOp} {r : R2} {f : PV → PV → Option PV} (hs : SimR2 X.K r f) (ho : OpR X (compareOp op) r) (hm : behindInMarks op b = false) (ha : JR X a ta ra) (hb : JR X b tb rb) : JT X W (.Compare a [op] [b] pos) (tTest (tOp r ta tb)) (bE (eN (rOp f ra rb))) := ⟨pt_cmpR ho ha.pe hb.pe hm, im_bE (im_eN_op hs ha.im hb.im)⟩
theorem jn_callB {x : Str} {p : Pos} {id : String} {r : List V → Hp → VK → Prop} {f : List PV → Option PV} (hs : SimL X.K r f) (hc : CallR X (.builtin id) r) (hv : bootBuiltins x = some (.builtin id)) (hm : X.mg x = none) (ha : JRA X (e :: es) tA am) (hg : Gl X x := by rfl) (hn : x ≠ "__name__" := by decide) (hdb : (x == ("__debug__" : Str)) = false := by decide)
    (he : starEach (e :: es) X.env = (false, eval e X.env) :: starEach es X.env := by rfl) (hpl : (backTo pos (starEach es X.env)).any (·.1) = false := by rfl) : JE X W (.Call (.Name x p) (e :: es) [] pos) (tCB r tA) (eN (rCl f am)) := ⟨pe_callB hc hg hm hv ha.pa hn hdb he hpl, im_eN_cl hs ha.im⟩
theorem jn_callTy {x : Str} {p : Pos} {T : String} {r : List V → Hp → VK → Prop} {f : List PV → Option PV} (hs : SimL X.K r f) (hc : CallR X (.type T) r) (hv : bootBuiltins x = some (.type T)) (hm : X.mg x = none) (ha : JRA X (e :: es) tA am) (hg : Gl X x := by rfl) (hn : x ≠ "__name__" := by decide) (hdb : (x == ("__debug__" : Str)) = false := by decide)
    (he : starEach (e :: es) X.env = (false, eval e X.env) :: starEach es X.env := by rfl) (hpl : (backTo pos (starEach es X.env)).any (·.1) = false := by rfl) : JE X W (.Call (.Name x p) (e :: es) [] pos) (tCB r tA) (eN (rCl f am)) := ⟨pe_callTy hc hg hm hv ha.pa hn hdb he hpl, im_eN_cl hs ha.im⟩
end
@[simp] theorem raNil_ap (env : PEnv) : raNil env = some [] := rfl
@[simp] theorem raCons_ap (r : RM) (a : PEnv → Option (List PV)) (env : PEnv) : raCons r a env = (r env).bind fun x => (a env).bind fun xs => some (x :: xs) := rfl
@[simp] theorem rCl_ap (f : List PV → Option PV) (a : PEnv → Option (List PV)) (env : PEnv) : rCl f a env = (a env).bind f := rfl
@[simp] theorem eN_ap (r : RM) (env : PEnv) : eN r env = ofO (r env) env := rfl
end PVL

/-! M0: how the pure functions are evaluated: equations for simp. -/
namespace PVL
open PySem PySem.Spec L2
@[simp] theorem cmulR (i : Int) {j : Int} (h1 : -1000000000000 < j) (h2 : j < 1000000000000) : CMul i j := .inr ⟨by omega, by omega⟩
@[simp] theorem cmulL {i : Int} (j : Int) (h1 : -1000000000000 < i) (h2 : i < 1000000000000) : CMul i j := .inl ⟨by omega, by omega⟩
@[simp] theorem cdiv_ (i : Int) {j : Int} (h1 : 0 < j) (h2 : j < 1073741824) : CDiv i j := ⟨h1, h2⟩
@[simp] theorem gRef_ap (i : Nat) (env : PEnv) : gRef i env = (match env[i]? with
  | some (some _) => .ok (.ref i) env
  | _ => .bad) := rfl
@[simp] theorem gOwn_ap (m : EM) (env : PEnv) : gOwn m env = ((m env).bind fun x e => .ok (.own x) e) := rfl
@[simp] theorem aNil_ap  (env : PEnv) : aNil  env = (.ok [] env) := rfl
@[simp] theorem aCons_ap (g : GM) (a : AM) (env : PEnv) : aCons g a env = ((g env).bind fun x e => (a e).bind fun r e2 => .ok (x :: r) e2) := rfl
@[simp] theorem eOp_ap (f : PV → PV → Option PV) (a b : GM) (env : PEnv) : eOp f a b env = ((a env).bind fun x e1 => (b e1).bind fun y e2 =>
  ofO ((seeG e2 x).bind fun p => (seeG e2 y).bind fun q => f p q) e2) := rfl
@[simp] theorem eUn_ap (f : PV → Option PV) (a : GM) (env : PEnv) : eUn f a env = ((a env).bind fun x e1 => ofO ((seeG e1 x).bind f) e1) := rfl
@[simp] theorem eCl_ap (f : List PV → Option PV) (a : AM) (env : PEnv) : eCl f a env = ((a env).bind fun as e1 => ofO ((seeL e1 as).bind f) e1) := rfl
@[simp] theorem rVar_ap (i : Nat) (env : PEnv) : rVar i env = ((env[i]?).join) := rfl
@[simp] theorem rC_ap (x : PV) (env : PEnv) : rC x env = (some x) := rfl
@[simp] theorem rOp_ap (f : PV → PV → Option PV) (a b : RM) (env : PEnv) : rOp f a b env = ((a env).bind fun x => (b env).bind fun y => f x y) := rfl
@[simp] theorem rUn_ap (f : PV → Option PV) (a : RM) (env : PEnv) : rUn f a env = ((a env).bind f) := rfl
@[simp] theorem eR_ap (m : RM) (env : PEnv) : eR m env = (ofO (immO (m env)) env) := rfl
@[simp] theorem eC_ap (x : PV) (env : PEnv) : eC x env = (.ok x env) := rfl
@[simp] theorem eVar_ap (i : Nat) (env : PEnv) : eVar i env = (match env[i]? with
  | some (some x) => if x.imm = true then .ok x env else .ok x (env.set i none)
  | _ => .bad) := rfl
@[simp] theorem bE_ap (m : EM) (env : PEnv) : bE m env = ((m env).bind fun x e => match x with
  | .bl b => .ok b e
  | _ => .bad) := rfl
@[simp] theorem bAnd_ap (a b : BM) (env : PEnv) : bAnd a b env = ((a env).bind fun x e => if x = true then b e else .ok false e) := rfl
@[simp] theorem bOr_ap (a b : BM) (env : PEnv) : bOr a b env = ((a env).bind fun x e => if x = true then .ok true e else b e) := rfl
@[simp] theorem bNot_ap (a : BM) (env : PEnv) : bNot a env = ((a env).bind fun x e => .ok (!x) e) := rfl
@[simp] theorem eAnd_ap (a b : EM) (env : PEnv) : eAnd a b env = ((a env).bind fun x e => match x with
  | .bl true => b e
  | .bl false => .ok (.bl false) e
  | _ => .bad) := rfl
@[simp] theorem eOr_ap (a b : EM) (env : PEnv) : eOr a b env = ((a env).bind fun x e => match x with
  | .bl true => .ok (.bl true) e
  | .bl false => b e
  | _ => .bad) := rfl
@[simp] theorem eNot_ap (a : EM) (env : PEnv) : eNot a env = ((a env).bind fun x e => match x with
  | .bl c => .ok (.bl (!c)) e
  | _ => .bad) := rfl
@[simp] theorem eIf_ap (c : BM) (a b : EM) (env : PEnv) : eIf c a b env = ((c env).bind fun x e => if x = true then a e else b e) := rfl
@[simp] theorem eTup_ap (a : AM) (env : PEnv) : eTup a env = ((a env).bind fun as e => match ownL as with
  | some xs => if xs.length ≤ sizeLine then .ok (.tup xs) e else .bad
  | none => .bad) := rfl
@[simp] theorem eLst_ap (a : AM) (env : PEnv) : eLst a env = ((a env).bind fun as e => match ownL as with
  | some xs => if xs.length ≤ sizeLine then .ok (.lst xs) e else .bad
  | none => .bad) := rfl
@[simp] theorem sNil_ap  (env : PEnv) : sNil  env = (.next env) := rfl
@[simp] theorem sBrk_ap  (env : PEnv) : sBrk  env = (.brk env) := rfl
@[simp] theorem sCont_ap  (env : PEnv) : sCont  env = (.cont env) := rfl
@[simp] theorem sBad_ap (env : PEnv) : sBad env = .bad := rfl
@[simp] theorem sExpr_ap (m : EM) (env : PEnv) : sExpr m env = ((m env).toS fun _ e => .next e) := rfl
@[simp] theorem sRet_ap (m : EM) (env : PEnv) : sRet m env = ((m env).toS fun x e => .ret x e) := rfl
@[simp] theorem sRetN_ap  (env : PEnv) : sRetN  env = (.ret .non env) := rfl
@[simp] theorem sIf_ap (c : BM) (a b : SM) (env : PEnv) : sIf c a b env = ((c env).toS fun x e => if x = true then a e else b e) := rfl
@[simp] theorem tgN_ap (i : Nat) (x : PV) (env : PEnv) : tgN i x env = (if i < env.length then some (env.set i (some x)) else none) := rfl
@[simp] theorem tgsNil_ap  (xs : List PV) (env : PEnv) : tgsNil  xs env = (match xs with
  | [] => some env
  | _ => none) := rfl
@[simp] theorem tgsCons_ap (t : TM) (u : List PV → PEnv → Option PEnv) (xs : List PV) (env : PEnv) : tgsCons t u xs env = (match xs with
  | x :: r => (t x env).bind fun e => u r e
  | [] => none) := rfl
@[simp] theorem tgT_ap (n : Nat) (u : List PV → PEnv → Option PEnv) (x : PV) (env : PEnv) : tgT n u x env = (match x with
  | .tup xs => if xs.length = n then u xs env else none
  | _ => none) := rfl
@[simp] theorem sAsg_ap (m : EM) (t : TM) (env : PEnv) : sAsg m t env = ((m env).toS fun x e => match t x e with
  | some e2 => .next e2
  | none => .bad) := rfl
@[simp] theorem sPar_ap (i j : Nat) (a : AM) (env : PEnv) : sPar i j a env = ((a env).toS fun as e => match ownL as with
  | some [x, y] => if i < e.length ∧ j < e.length then .next ((e.set i (some x)).set j (some y)) else .bad
  | _ => .bad) := rfl
@[simp] theorem sFor_ap (it : PEnv → EO (List PV)) (t : TM) (body : SM) (env : PEnv) : sFor it t body env = ((it env).toS fun items e => forL t body items e) := rfl
@[simp] theorem sForV_ap (i : Nat) (t : TM) (body : SM) (env : PEnv) : sForV i t body env = (match env[i]? with
  | some (some (.lst xs)) => if immL xs = true then (forL t body xs (env.set i none)).mapE (fun e => e.set i (some (.lst xs))) else .bad
  | _ => .bad) := rfl
@[simp] theorem itL_ap (m : EM) (env : PEnv) : itL m env = ((m env).bind fun x e => match itemsOf x with
  | some xs => .ok xs e
  | none => .bad) := rfl
@[simp] theorem itT_ap (m : EM) (env : PEnv) : itT m env = ((m env).bind fun x e => match itemsOfT x with
  | some xs => .ok xs e
  | none => .bad) := rfl
@[simp] theorem itR1_ap (a : AM) (env : PEnv) : itR1 a env = ((a env).bind fun as e => match seeL e as with
  | some [.int j] => if rngOk j then .ok (rngL 0 j.toNat) e else .bad
  | _ => .bad) := rfl
@[simp] theorem itR2_ap (a : AM) (env : PEnv) : itR2 a env = ((a env).bind fun as e => match seeL e as with
  | some [.int i, .int j] => if rngOk i ∧ rngOk j then .ok (rngL i (j - i).toNat) e else .bad
  | _ => .bad) := rfl
@[simp] theorem eLC_ap (it : PEnv → EO (List PV)) (vs : List Nat) (t : TM) (c : BM) (m : EM) (env : PEnv) : eLC it vs t c m env = ((it env).bind fun items e => lcL vs t c m items [] (envWipe e vs)) := rfl
@[simp] theorem eLCV_ap (i : Nat) (vs : List Nat) (t : TM) (c : BM) (m : EM) (env : PEnv) : eLCV i vs t c m env = (match env[i]? with
  | some (some (.lst xs)) => if immL xs = true then (lcL vs t c m xs [] (envWipe (env.set i none) vs)).mapE (fun e => e.set i (some (.lst xs))) else .bad
  | _ => .bad) := rfl
@[simp] theorem eLCVS_ap (i : Nat) (vs : List Nat) (t : TM) (c : BM) (m : EM) (env : PEnv) : eLCVS i vs t c m env = (match env[i]? with
  | some (some (.tup xs)) => eLC (itT (eVar i)) vs t c m env
  | _ => eLCV i vs t c m env) := rfl
@[simp] theorem sForVS_ap (i : Nat) (t : TM) (body : SM) (env : PEnv) : sForVS i t body env = (match env[i]? with
  | some (some (.tup xs)) => sFor (itT (eVar i)) t body env
  | _ => sForV i t body env) := rfl
@[simp] theorem eMeth_ap (T : String) (i : Nat) (f : PV → List PV → Option (PV × PV)) (a : AM) (env : PEnv) : eMeth T i f a env = (match env[i]? with
  | some (some p0) => if tyP T p0 = true then (a env).bind fun as e => (match e[i]? with
      | some (some p) => (match ownL as with
        | some xs => (match f p xs with | some (res, p') => .ok res (e.set i (some p')) | none => .bad)
        | none => .bad)
      | _ => .bad) else .bad
  | _ => .bad) := rfl
@[simp] theorem eMeth0_ap (T : String) (i : Nat) (f : PV → List PV → Option (PV × PV)) (env : PEnv) : eMeth0 T i f env = (match env[i]? with
  | some (some p) => if tyP T p = true then (match f p [] with | some (res, p') => .ok res (env.set i (some p')) | none => .bad) else .bad
  | _ => .bad) := rfl
@[simp] theorem eMethB_ap (T : String) (i : Nat) (f : PV → List PV → Option (PV × PV)) (a : AM) (env : PEnv) : eMethB T i f a env = (match env[i]? with
  | some (some p0) => if tyP T p0 = true then (a env).bind fun as e => (match e[i]? with
      | some (some p) => (match seeL e as with
        | some xs => (match f p xs with | some (res, p') => .ok res (e.set i (some p')) | none => .bad)
        | none => .bad)
      | _ => .bad) else .bad
  | _ => .bad) := rfl
@[simp] theorem sSetIx_ap (i : Nat) (k : RM) (f : PV → PV → PV → Option PV) (m : EM) (env : PEnv) : sSetIx i k f m env = ((m env).toS fun v e => match e[i]? with
  | some (some p) => (match k e with
    | some pk => (match f p pk v with | some p' => .next (e.set i (some p')) | none => .bad)
    | none => .bad)
  | _ => .bad) := rfl
@[simp] theorem sAug_ap (i : Nat) (f : PV → PV → Option PV) (m : EM) (env : PEnv) : sAug i f m env = (match env[i]? with
  | some (some p) => if p.imm = true then (m env).toS fun v e => (match f p v with | some z => if i < e.length then .next (e.set i (some z)) else .bad | none => .bad) else .bad
  | _ => .bad) := rfl
@[simp] theorem sAugIx_ap (i : Nat) (k : RM) (g : PV → PV → Option PV) (m : EM) (f : PV → PV → Option PV) (st : PV → PV → PV → Option PV) (env : PEnv) : sAugIx i k g m f st env = (match env[i]? with
  | some (some p) => (match k env with
    | some pk => if pk.imm = true then (match immO (g p pk) with
      | some x => (m env).toS fun v e => (match f x v with
        | some z => if z.imm = true then (match e[i]? with
          | some (some p1) => (match st p1 pk z with | some p' => .next (e.set i (some p')) | none => .bad)
          | _ => .bad) else .bad
        | none => .bad)
      | none => .bad) else .bad
    | none => .bad)
  | _ => .bad) := rfl
@[simp] theorem eCall_ap (f : FM) (a : AM) (env : PEnv) : eCall f a env = ((a env).bind fun as e => match takeA as e with
  | some (ps, e1) => (match f ps with
    | .ok x qs => .ok x (putA as qs e1)
    | .exc x qs => .exc x (putA as qs e1)
    | .bad => .bad)
  | none => .bad) := rfl
@[simp] theorem sRaise_ap (x : Str) (ps : List Str) (a : AM) (env : PEnv) : sRaise x ps a env = ((a env).toS fun as e => match seeL e as with
  | some xs => if xs.length = ps.length ∧ immL xs = true then .exc ⟨x, (ps.zip xs).reverse⟩ e else .bad
  | none => .bad) := rfl
/-! sequences -/
def SO.andThen (x : SO) (b : SM) : SO := match x with
  | .next e => b e
  | o => o
@[simp] theorem andThen_next (e : PEnv) (b : SM) : (SO.next e).andThen b = b e := rfl
@[simp] theorem andThen_ret (x : PV) (e : PEnv) (b : SM) : (SO.ret x e).andThen b = .ret x e := rfl
@[simp] theorem andThen_brk (e : PEnv) (b : SM) : (SO.brk e).andThen b = .brk e := rfl
@[simp] theorem andThen_cont (e : PEnv) (b : SM) : (SO.cont e).andThen b = .cont e := rfl
@[simp] theorem andThen_exc (x : PX) (e : PEnv) (b : SM) : (SO.exc x e).andThen b = .exc x e := rfl
@[simp] theorem andThen_bad (b : SM) : SO.bad.andThen b = .bad := rfl
@[simp] theorem sSeq_ap (a b : SM) (env : PEnv) : sSeq a b env = (a env).andThen b := by
  unfold sSeq SO.andThen
  rfl
@[simp] theorem mapE_next (f : PEnv → PEnv) (e : PEnv) : (SO.next e).mapE f = .next (f e) := rfl
@[simp] theorem mapE_ret (f : PEnv → PEnv) (x : PV) (e : PEnv) : (SO.ret x e).mapE f = .ret x (f e) := rfl
@[simp] theorem mapE_exc (f : PEnv → PEnv) (x : PX) (e : PEnv) : (SO.exc x e).mapE f = .exc x (f e) := rfl
@[simp] theorem mapE_bad (f : PEnv → PEnv) : SO.bad.mapE f = .bad := rfl
@[simp] theorem bYes_ap (env : PEnv) : bYes env = .ok true env := rfl
@[simp] theorem oNone_ap (env : PEnv) : oNone env = .ok none env := rfl
@[simp] theorem oSome_ap (m : EM) (env : PEnv) : oSome m env = (m env).bind fun x e => match x with
  | .int i => .ok (some i) e
  | _ => .bad := rfl
@[simp] theorem eSl_ap (f : PV → Option Int → Option Int → Option PV) (a : GM) (lo hi : PEnv → EO (Option Int)) (env : PEnv) : eSl f a lo hi env = (a env).bind fun x e1 => (lo e1).bind fun l e2 => (hi e2).bind fun h e3 => ofO ((seeG e3 x).bind fun p => f p l h) e3 := rfl
@[simp] theorem itS_ap (m : EM) (env : PEnv) : itS m env = match m env with
  | .ok (.tup xs) e => itT (fun _ => .ok (.tup xs) e) env
  | o => itL (fun _ => o) env := rfl
@[simp] theorem sTry_ap (b : SM) (l : List PCl) (env : PEnv) : sTry b l env = match b env with
  | .exc x e => pick x e l
  | o => o := rfl
@[simp] theorem wipe_nil (env : PEnv) : envWipe env [] = env := rfl
@[simp] theorem wipe_cons (env : PEnv) (v : Nat) (vs : List Nat) : envWipe env (v :: vs) = (envWipe env vs).set v none := rfl
@[simp] theorem forL_nil (t : TM) (b : SM) (env : PEnv) : forL t b [] env = .next env := rfl
@[simp] theorem lcL_nil (vs : List Nat) (t : TM) (c : BM) (m : EM) (acc : List PV) (env : PEnv) : lcL vs t c m [] acc env = .ok (.lst acc) env := rfl
/-! values -/
@[simp] theorem imm_non : PV.non.imm = true := rfl
@[simp] theorem imm_bl (b : Bool) : (PV.bl b).imm = true := rfl
@[simp] theorem imm_int (b : Int) : (PV.int b).imm = true := rfl
@[simp] theorem imm_str (b : Str) : (PV.str b).imm = true := rfl
@[simp] theorem imm_tup (b : List PV) : (PV.tup b).imm = immL b := by simp [PV.imm]
@[simp] theorem imm_lst (b : List PV) : (PV.lst b).imm = false := rfl
@[simp] theorem imm_frz (b : List PV) : (PV.frz b).imm = true := rfl
@[simp] theorem imm_ty (b : String) : (PV.ty b).imm = true := rfl
@[simp] theorem imm_dct (b : List (PV × PV)) : (PV.dct b).imm = false := rfl
@[simp] theorem immL_nil : immL [] = true := rfl
@[simp] theorem immL_cons (x : PV) (r : List PV) : immL (x :: r) = (x.imm && immL r) := by simp [immL]
@[simp] theorem immL_app (x r : List PV) : immL (x ++ r) = (immL x && immL r) := immL_append
theorem immL_all : ∀ {xs : List PV}, (∀ x ∈ xs, x.imm = true) → immL xs = true
  | [], _ => rfl
  | x :: r, h => by simp [h x (List.mem_cons_self ..), immL_all fun y hy => h y (List.mem_cons_of_mem _ hy)]
theorem immL_mem : ∀ {xs : List PV}, immL xs = true → ∀ x ∈ xs, x.imm = true
  | x :: r, h, y, hy => by
    simp only [immL_cons, Bool.and_eq_true] at h
    rcases List.mem_cons.mp hy with e | e
    · rw [e]; exact h.1
    · exact immL_mem h.2 y e
@[simp] theorem immL_ints (l : List Int) : immL (l.map PV.int) = true := immL_all fun x hx => by
  obtain ⟨i, _, rfl⟩ := List.mem_map.mp hx
  rfl
theorem immL_map {α : Type} (f : α → PV) (l : List α) (h : ∀ a ∈ l, (f a).imm = true) : immL (l.map f) = true := immL_all fun x hx => by
  obtain ⟨i, hi, rfl⟩ := List.mem_map.mp hx
  exact h i hi
@[simp] theorem seeG_own (e : PEnv) (x : PV) : seeG e (.own x) = some x := rfl
@[simp] theorem seeG_ref (e : PEnv) (i : Nat) : seeG e (.ref i) = (e[i]?).join := rfl
@[simp] theorem seeL_nil (e : PEnv) : seeL e [] = some [] := rfl
@[simp] theorem seeL_cons (e : PEnv) (a : Arg) (r : List Arg) : seeL e (a :: r) = (seeG e a).bind fun x => (seeL e r).map (x :: ·) := rfl
@[simp] theorem ownL_nil : ownL [] = some [] := rfl
@[simp] theorem ownL_own (x : PV) (r : List Arg) : ownL (.own x :: r) = (ownL r).map (x :: ·) := rfl
@[simp] theorem ownL_ref (x : Nat) (r : List Arg) : ownL (.ref x :: r) = none := rfl
@[simp] theorem immO_some (z : PV) : immO (some z) = if z.imm = true then some z else none := rfl
@[simp] theorem takeA_nil (e : PEnv) : takeA [] e = some ([], e) := rfl
@[simp] theorem takeA_own (x : PV) (r : List Arg) (e : PEnv) : takeA (.own x :: r) e = (takeA r e).map fun z => (x :: z.1, z.2) := rfl
@[simp] theorem takeA_ref (i : Nat) (r : List Arg) (e : PEnv) : takeA (.ref i :: r) e = match e[i]? with
    | some (some p) => if p.imm = true then (takeA r e).map fun z => (p :: z.1, z.2) else (takeA r (e.set i none)).map fun z => (p :: z.1, z.2)
    | _ => none := rfl
@[simp] theorem putA_nil (ps : List (Option PV)) (e : PEnv) : putA [] ps e = e := by cases ps <;> rfl
@[simp] theorem putA_own (x : PV) (p : Option PV) (r : List Arg) (ps : List (Option PV)) (e : PEnv) : putA (.own x :: r) (p :: ps) e = putA r ps e := rfl
@[simp] theorem putA_some (x : PV) (i : Nat) (r : List Arg) (ps : List (Option PV)) (e : PEnv) : putA (.ref i :: r) (some x :: ps) e = putA r ps (e.set i (some x)) := rfl
@[simp] theorem putA_none (i : Nat) (r : List Arg) (ps : List (Option PV)) (e : PEnv) : putA (.ref i :: r) (none :: ps) e = putA r ps e := rfl
@[simp] theorem finals_nil (e : PEnv) : finals [] e = [] := rfl
@[simp] theorem finals_cons (p : PV) (r : List PV) (x : Option PV) (e : PEnv) : finals (p :: r) (x :: e) = (if p.imm = true then some p else x) :: finals r e := rfl
def endF (ps : List PV) : SO → FO
  | .next e => .ok .non (finals ps e)
  | .ret x e => .ok x (finals ps e)
  | .exc x e => .exc x (finals ps e)
  | _ => .bad
@[simp] theorem endF_next (ps : List PV) (e : PEnv) : endF ps (.next e) = .ok .non (finals ps e) := rfl
@[simp] theorem endF_ret (ps : List PV) (x : PV) (e : PEnv) : endF ps (.ret x e) = .ok x (finals ps e) := rfl
@[simp] theorem endF_exc (ps : List PV) (x : PX) (e : PEnv) : endF ps (.exc x e) = .exc x (finals ps e) := rfl
/-- a def whose stored parameters have no mutable part -/
theorem fnM_at {n m : Nat} {asg : List Nat} {body : SM} {ps : List PV} (h : asg.all (fun j => match ps[j]? with | some p => p.imm | none => true) = true) : fnM n m asg body ps = endF ps (body (ps.map some ++ List.replicate (m - n) none)) := by
  unfold fnM
  split
  · cases body (ps.map some ++ List.replicate (m - n) none) <;> rfl
  · rename_i hh
    exact absurd h hh
/-! operations -/
@[simp] theorem pAdd_i (a b : Int) : pAdd (.int a) (.int b) = some (.int (a + b)) := rfl
@[simp] theorem pAdd_s (a b : Str) : pAdd (.str a) (.str b) = if a.length + b.length ≤ sizeLine then some (.str (a ++ b)) else none := rfl
@[simp] theorem pAdd_t (a b : List PV) : pAdd (.tup a) (.tup b) = if a.length + b.length ≤ sizeLine ∧ immL a = true ∧ immL b = true then some (.tup (a ++ b)) else none := rfl
@[simp] theorem pAdd_l (a b : List PV) : pAdd (.lst a) (.lst b) = if a.length + b.length ≤ sizeLine ∧ immL a = true ∧ immL b = true then some (.lst (a ++ b)) else none := rfl
@[simp] theorem pAddI_i (a b : Int) : pAddI (.int a) (.int b) = some (.int (a + b)) := rfl
@[simp] theorem pI_i (c : Int → Int → Prop) [∀ i j, Decidable (c i j)] (g : Int → Int → Int) (a b : Int) : pI c g (.int a) (.int b) = if c a b then some (.int (g a b)) else none := rfl
@[simp] theorem pI0_i (g : Int → Int → Int) (a b : Int) : pI0 g (.int a) (.int b) = some (.int (g a b)) := rfl
@[simp] theorem pB0_i (g : Int → Int → Bool) (a b : Int) : pB0 g (.int a) (.int b) = some (.bl (g a b)) := rfl
theorem pPow_i (a b : Int) : pPow (.int a) (.int b) = if CPow a b then some (.int (a ^ b.toNat)) else none := rfl
theorem pShl_i (a b : Int) : pShl (.int a) (.int b) = if CPow a b then some (.int (a * 2 ^ b.toNat)) else none := rfl
@[simp] theorem pPow_ten : pPow (.int 10) (.int 18) = some (.int 1000000000000000000) := by
  rw [pPow_i, if_pos (show CPow 10 18 from ⟨by decide, by decide, by decide⟩)]
  rfl
@[simp] theorem pNeg_i (a : Int) : pNeg (.int a) = some (.int (-a)) := rfl
@[simp] theorem pLen_l (x : List PV) : pLen [.lst x] = some (.int x.length) := rfl
@[simp] theorem pLen_f (x : List PV) : pLen [.frz x] = some (.int x.length) := rfl
@[simp] theorem pLen_t (x : List PV) : pLen [.tup x] = some (.int x.length) := rfl
@[simp] theorem pAbs_i (i : Int) : pAbs [.int i] = some (.int (if i < 0 then -i else i)) := rfl
@[simp] theorem pInt_i (i : Int) : pInt [.int i] = some (.int i) := rfl
@[simp] theorem pInt_b (b : Bool) : pInt [.bl b] = some (.int (if b then 1 else 0)) := rfl
@[simp] theorem pTuple_l (x : List PV) : pTuple [.lst x] = if immL x = true then some (.tup x) else none := rfl
@[simp] theorem pTuple_t (x : List PV) : pTuple [.tup x] = if immL x = true then some (.tup x) else none := rfl
@[simp] theorem pList_l (x : List PV) : pList [.lst x] = if immL x = true then some (.lst x) else none := rfl
@[simp] theorem pList_t (x : List PV) : pList [.tup x] = if immL x = true then some (.lst x) else none := rfl
@[simp] theorem isi_int_int (i : Int) : pIsi [.int i, .ty "int"] = some (.bl true) := by simp [pIsi, tyName, tyKnown, isT]
@[simp] theorem isi_int_bool (i : Int) : pIsi [.int i, .ty "bool"] = some (.bl false) := by simp [pIsi, tyName, tyKnown, isT]
@[simp] theorem isi_int_str (i : Int) : pIsi [.int i, .ty "str"] = some (.bl false) := by simp [pIsi, tyName, tyKnown, isT]
@[simp] theorem isi_int_tup (i : Int) : pIsi [.int i, .ty "tuple"] = some (.bl false) := by simp [pIsi, tyName, tyKnown, isT]
@[simp] theorem isi_int_lst (i : Int) : pIsi [.int i, .ty "list"] = some (.bl false) := by simp [pIsi, tyName, tyKnown, isT]
@[simp] theorem isi_bl_int (i : Bool) : pIsi [.bl i, .ty "int"] = some (.bl true) := by simp [pIsi, tyName, tyKnown, isT]
@[simp] theorem isi_bl_bool (i : Bool) : pIsi [.bl i, .ty "bool"] = some (.bl true) := by simp [pIsi, tyName, tyKnown, isT]
@[simp] theorem isi_bl_str (i : Bool) : pIsi [.bl i, .ty "str"] = some (.bl false) := by simp [pIsi, tyName, tyKnown, isT]
@[simp] theorem isi_bl_tup (i : Bool) : pIsi [.bl i, .ty "tuple"] = some (.bl false) := by simp [pIsi, tyName, tyKnown, isT]
@[simp] theorem isi_str_int (i : Str) : pIsi [.str i, .ty "int"] = some (.bl false) := by simp [pIsi, tyName, tyKnown, isT]
@[simp] theorem isi_str_bool (i : Str) : pIsi [.str i, .ty "bool"] = some (.bl false) := by simp [pIsi, tyName, tyKnown, isT]
@[simp] theorem isi_str_str (i : Str) : pIsi [.str i, .ty "str"] = some (.bl true) := by simp [pIsi, tyName, tyKnown, isT]
@[simp] theorem isi_str_tup (i : Str) : pIsi [.str i, .ty "tuple"] = some (.bl false) := by simp [pIsi, tyName, tyKnown, isT]
@[simp] theorem isi_tup_tup (i : List PV) : pIsi [.tup i, .ty "tuple"] = some (.bl true) := by simp [pIsi, tyName, tyKnown, isT]
@[simp] theorem isi_tup_int (i : List PV) : pIsi [.tup i, .ty "int"] = some (.bl false) := by simp [pIsi, tyName, tyKnown, isT]
@[simp] theorem isi_tup_bool (i : List PV) : pIsi [.tup i, .ty "bool"] = some (.bl false) := by simp [pIsi, tyName, tyKnown, isT]
@[simp] theorem isi_tup_str (i : List PV) : pIsi [.tup i, .ty "str"] = some (.bl false) := by simp [pIsi, tyName, tyKnown, isT]
@[simp] theorem isi_lst_tup (i : List PV) : pIsi [.lst i, .ty "tuple"] = some (.bl false) := by simp [pIsi, tyName, tyKnown, isT]
@[simp] theorem isi_lst_lst (i : List PV) : pIsi [.lst i, .ty "list"] = some (.bl true) := by simp [pIsi, tyName, tyKnown, isT]
@[simp] theorem isi_non_str : pIsi [.non, .ty "str"] = some (.bl false) := by simp [pIsi, tyName, tyKnown, isT]
@[simp] theorem isi_non_tup : pIsi [.non, .ty "tuple"] = some (.bl false) := by simp [pIsi, tyName, tyKnown, isT]
@[simp] theorem isi_non_bool : pIsi [.non, .ty "bool"] = some (.bl false) := by simp [pIsi, tyName, tyKnown, isT]
@[simp] theorem isi_non_int : pIsi [.non, .ty "int"] = some (.bl false) := by simp [pIsi, tyName, tyKnown, isT]
@[simp] theorem isN_non : pIsN .non .non = some (.bl true) := rfl
@[simp] theorem isN_int (i : Int) : pIsN (.int i) .non = some (.bl false) := rfl
@[simp] theorem isN_bl (i : Bool) : pIsN (.bl i) .non = some (.bl false) := rfl
@[simp] theorem isN_str (i : Str) : pIsN (.str i) .non = some (.bl false) := rfl
@[simp] theorem isN_tup (i : List PV) : pIsN (.tup i) .non = some (.bl false) := rfl
@[simp] theorem isN_lst (i : List PV) : pIsN (.lst i) .non = some (.bl false) := rfl
@[simp] theorem eq_ii (a b : Int) : pEq (.int a) (.int b) = some (.bl (decide (a = b))) := rfl
@[simp] theorem eq_ss (a b : Str) : pEq (.str a) (.str b) = some (.bl (decide (a = b))) := rfl
@[simp] theorem eq_bb (a b : Bool) : pEq (.bl a) (.bl b) = some (.bl (decide (a = b))) := rfl
@[simp] theorem ne_ii (a b : Int) : pNe (.int a) (.int b) = some (.bl (!decide (a = b))) := rfl
@[simp] theorem ne_ss (a b : Str) : pNe (.str a) (.str b) = some (.bl (!decide (a = b))) := rfl
@[simp] theorem pIx_l (x : List PV) (i : Int) : pIx (.lst x) (.int i) = atI x i := rfl
@[simp] theorem pIx_t (x : List PV) (i : Int) : pIx (.tup x) (.int i) = atI x i := rfl
@[simp] theorem pIx_f (x : List PV) (i : Int) : pIx (.frz x) (.int i) = atI x i := rfl
@[simp] theorem pIxL_l (x : List PV) (i : Int) : pIxL (.lst x) (.int i) = atI x i := rfl
@[simp] theorem pSetL_l (x : List PV) (k : Int) (v : PV) : pSetL (.lst x) (.int k) v = (ixN x.length k).map fun j => .lst (x.set j v) := rfl
@[simp] theorem pAppend_l (x : List PV) (v : PV) : pAppend (.lst x) [v] = if x.length < sizeLine then some (.non, .lst (x ++ [v])) else none := rfl
@[simp] theorem pSl_l (x : List PV) (lo hi : Option Int) : pSl (.lst x) lo hi = if immL x = true then some (.lst (pcut x lo hi)) else none := rfl
@[simp] theorem pSl_f (x : List PV) (lo hi : Option Int) : pSl (.frz x) lo hi = if immL x = true then some (.lst (pcut x lo hi)) else none := rfl
@[simp] theorem pSl_t (x : List PV) (lo hi : Option Int) : pSl (.tup x) lo hi = if immL x = true then some (.tup (pcut x lo hi)) else none := rfl
@[simp] theorem itemsOf_l (x : List PV) : itemsOf (.lst x) = if immL x = true then some x else none := rfl
@[simp] theorem itemsOf_f (x : List PV) : itemsOf (.frz x) = if immL x = true then some x else none := rfl
@[simp] theorem itemsOfT_t (x : List PV) : itemsOfT (.tup x) = if immL x = true then some x else none := rfl
@[simp] theorem tyP_l (x : List PV) : tyP "list" (.lst x) = true := rfl
@[simp] theorem at_0 {α : Type} (x : α) (r : List α) : atI (x :: r) 0 = some x := by
  unfold atI ixN
  simp only [List.length_cons]
  rw [if_pos (by omega), if_pos (by omega)]
  rfl
theorem at_nat {α : Type} (xs : List α) (i : Int) (h : 0 ≤ i) : atI xs i = xs[i.toNat]? := by
  unfold atI ixN
  rw [if_pos h]
  by_cases h1 : i < xs.length
  · rw [if_pos h1]; rfl
  · rw [if_neg h1]
    rw [List.getElem?_eq_none (by omega)]; rfl
@[simp] theorem at_1 {α : Type} (x y : α) (r : List α) : atI (x :: y :: r) 1 = some y := by rw [at_nat _ _ (by decide)]; rfl
@[simp] theorem at_2 {α : Type} (x y z : α) (r : List α) : atI (x :: y :: z :: r) 2 = some z := by rw [at_nat _ _ (by decide)]; rfl
@[simp] theorem at_3 {α : Type} (x y z u : α) (r : List α) : atI (x :: y :: z :: u :: r) 3 = some u := by rw [at_nat _ _ (by decide)]; rfl
@[simp] theorem ix_nat (n : Nat) (i : Int) (h : 0 ≤ i) (h2 : i < n) : ixN n i = some i.toNat := by
  unfold ixN
  rw [if_pos h, if_pos h2]
theorem at_neg {α : Type} (xs : List α) (i : Int) (h : i < 0) (h2 : 0 ≤ i + xs.length) : atI xs i = xs[(i + xs.length).toNat]? := by
  unfold atI ixN
  rw [if_neg (by omega)]
  split
  · rfl
  · omega
@[simp] theorem le_size {n : Nat} (h : n ≤ 1000000) : n ≤ sizeLine := by rw [sizeLine_eq]; omega
@[simp] theorem lt_size {n : Nat} (h : n < 1000000) : n < sizeLine := by rw [sizeLine_eq]; omega
/-! loops -/
theorem forL_cons (t : TM) (b : SM) (x : PV) (r : List PV) (env : PEnv) : forL t b (x :: r) env = match t x env with
    | none => .bad
    | some e => match b e with
      | .next e => forL t b r e
      | .cont e => forL t b r e
      | .brk e => .next e
      | o => o := rfl
/-- behind a turn -/
def loopK (o : SO) (k : SM) : SO := match o with
  | .next e => k e
  | .cont e => k e
  | .brk e => .next e
  | o => o
@[simp] theorem loopK_next (e : PEnv) (k : SM) : loopK (.next e) k = k e := rfl
@[simp] theorem loopK_cont (e : PEnv) (k : SM) : loopK (.cont e) k = k e := rfl
@[simp] theorem loopK_brk (e : PEnv) (k : SM) : loopK (.brk e) k = .next e := rfl
@[simp] theorem loopK_ret (x : PV) (e : PEnv) (k : SM) : loopK (.ret x e) k = .ret x e := rfl
@[simp] theorem loopK_exc (x : PX) (e : PEnv) (k : SM) : loopK (.exc x e) k = .exc x e := rfl
@[simp] theorem loopK_bad (k : SM) : loopK .bad k = .bad := rfl
theorem forL_at {t : TM} {b : SM} {x : PV} {r : List PV} {env e : PEnv} (h : t x env = some e) : forL t b (x :: r) env = loopK (b e) (forL t b r) := by
  rw [forL_cons, h]
  simp only
  cases b e <;> rfl
/-- a loop that goes to its end -/
theorem forL_all {t : TM} {b : SM} (I : List PV → PEnv → Prop) (step : ∀ x r env, I (x :: r) env → ∃ e e', t x env = some e ∧ (b e = .next e' ∨ b e = .cont e') ∧ I r e') : ∀ (l : List PV) (env : PEnv), I l env → ∃ e', forL t b l env = .next e' ∧ I [] e'
  | [], env, h => ⟨env, rfl, h⟩
  | x :: r, env, h => by
    obtain ⟨e, e', h1, h2, h3⟩ := step x r env h
    obtain ⟨e2, h4, h5⟩ := forL_all I step r e' h3
    refine ⟨e2, ?_, h5⟩
    rw [forL_cons, h1]
    rcases h2 with h2 | h2 <;> simp only [h2] <;> exact h4
theorem lcL_cons (vs : List Nat) (t : TM) (c : BM) (m : EM) (x : PV) (r acc : List PV) (env : PEnv) : lcL vs t c m (x :: r) acc env = match t x env with
    | none => .bad
    | some e => match c e with
      | .ok b e2 => if b = true then (match m e2 with
          | .ok y e3 => if acc.length < sizeLine then lcL vs t c m r (acc ++ [y]) (envWipe e3 vs) else .bad
          | _ => .bad) else lcL vs t c m r acc (envWipe e2 vs)
      | _ => .bad := rfl
/-- a comprehension that takes all -/
theorem lcL_all {vs : List Nat} {t : TM} {m : EM} (I : List PV → List PV → PEnv → Prop) (step : ∀ x r acc env, I (x :: r) acc env → ∃ e y e', t x env = some e ∧ m e = .ok y e' ∧ acc.length < sizeLine ∧ I r (acc ++ [y]) (envWipe e' vs)) :
    ∀ (l acc : List PV) (env : PEnv), I l acc env → ∃ acc' e', lcL vs t bYes m l acc env = .ok (.lst acc') e' ∧ I [] acc' e'
  | [], acc, env, h => ⟨acc, env, rfl, h⟩
  | x :: r, acc, env, h => by
    obtain ⟨e, y, e', h1, h2, h3, h4⟩ := step x r acc env h
    obtain ⟨a2, e2, h5, h6⟩ := lcL_all I step r _ _ h4
    refine ⟨a2, e2, ?_, h6⟩
    rw [lcL_cons, h1]
    simp only [bYes_ap, if_true, h2, h3]
    exact h5
/-- .. by a test -/
theorem lcL_some {vs : List Nat} {t : TM} {c : BM} {m : EM} (I : List PV → List PV → PEnv → Prop)
    (step : ∀ x r acc env, I (x :: r) acc env → ∃ e b e2, t x env = some e ∧ c e = .ok b e2 ∧ ((b = false ∧ I r acc (envWipe e2 vs)) ∨ (b = true ∧ ∃ y e', m e2 = .ok y e' ∧ acc.length < sizeLine ∧ I r (acc ++ [y]) (envWipe e' vs)))) :
    ∀ (l acc : List PV) (env : PEnv), I l acc env → ∃ acc' e', lcL vs t c m l acc env = .ok (.lst acc') e' ∧ I [] acc' e'
  | [], acc, env, h => ⟨acc, env, rfl, h⟩
  | x :: r, acc, env, h => by
    obtain ⟨e, b, e2, h1, h2, h3⟩ := step x r acc env h
    rcases h3 with ⟨rfl, h4⟩ | ⟨rfl, y, e', h4, h5, h6⟩
    · obtain ⟨a2, e3, h7, h8⟩ := lcL_some I step r _ _ h4
      exact ⟨a2, e3, by rw [lcL_cons, h1]; simp only [h2]; exact h7, h8⟩
    · obtain ⟨a2, e3, h7, h8⟩ := lcL_some I step r _ _ h6
      exact ⟨a2, e3, by rw [lcL_cons, h1]; simp only [h2, h4, h5, if_true]; exact h7, h8⟩
end PVL

/-! M1: the laws' common drawing of numbers. -/
namespace PVL
open PySem PySem.Spec L2
def bDrawR : SM := sSeq (sAugIx 0 (rC (.int 1)) pIxL (eC (.int 1)) pAddI pSetL) (sSeq (sIf (bE (eN (rOp pGe (rVar 2) (rOp pMul (rC (.int 2)) (rOp pPow (rC (.int 10)) (rC (.int 18))))))) (sSeq (sAsg (eN (rOp pMod (rCl pInt (raCons (rOp pDiv (rVar 2) (rC (.int 2))) (raNil))) (rOp pShl (rC (.int 1)) (rC (.int 6000))))) (tgN 3)) (sSeq (sSetIx 0 (rC (.int 2)) pSetL (eN (rOp pDiv (rVar 3) (rVar 1)))) (sRet (eN (rOp pMod (rCl pInt (raCons (rVar 3) (raNil))) (rVar 1)))))) (sNil)) (sSeq (sSetIx 0 (rC (.int 3)) pSetL (eN (rOp pMod (rCl pInt (raCons (rOp pAdd (rOp pAdd (rOp pAdd (rOp pMul (rOp pIx (rVar 0) (rC (.int 3))) (rC (.int 48271))) (rOp pMul (rOp pMod (rCl pInt (raCons (rVar 2) (raNil))) (rC (.int 2147483629))) (rC (.int 16807)))) (rOp pMul (rOp pIx (rVar 0) (rC (.int 1))) (rC (.int 69621)))) (rC (.int 11))) (raNil))) (rC (.int 2147483647))))) (sRet (eN (rOp pMod (rCl pInt (raCons (rOp pDiv (rOp pIx (rVar 0) (rC (.int 3))) (rC (.int 16))) (raNil))) (rVar 1))))))
def bDraw : SM := sSeq (sIf (bE (eN (rOp pGt (rOp pIx (rVar 0) (rC (.int 2))) (rC (.int 0))))) (sSeq (sAsg (eR (rOp pIx (rVar 0) (rC (.int 2)))) (tgN 3)) (sSeq (sSetIx 0 (rC (.int 2)) pSetL (eN (rOp pDiv (rVar 3) (rVar 1)))) (sRet (eN (rOp pMod (rCl pInt (raCons (rVar 3) (raNil))) (rVar 1)))))) (sNil)) (sSeq (sAsg (eC (.int 0)) (tgN 2)) (sSeq (sIf (bE (eN (rOp pLt (rOp pIx (rVar 0) (rC (.int 1))) (rCl pLen (raCons (rOp pIx (rVar 0) (rC (.int 0))) (raNil)))))) (sSeq (sAsg (eR (rOp pIx (rOp pIx (rVar 0) (rC (.int 0))) (rOp pIx (rVar 0) (rC (.int 1))))) (tgN 4)) (sAsg (eN (rOp pAdd (rOp pMul (rC (.int 2)) (rCl pAbs (raCons (rVar 4) (raNil)))) (rCl pInt (raCons (rOp pLt (rVar 4) (rC (.int 0))) (raNil))))) (tgN 2))) (sNil)) bDrawR))
def mDraw : FM := fnM 2 5 [] bDraw
structure Dr where
  cells : List Int
  at_ : Nat
  held : Int
  seed : Int
def Dr.pv (d : Dr) : PV := .lst [.lst (d.cells.map .int), .int d.at_, .int d.held, .int d.seed]
@[simp] theorem Dr.pv_imm (d : Dr) : d.pv.imm = false := rfl
def big : Int := 1 * 2 ^ (6000 : Int).toNat
theorem big_pos : 0 < big := by
  unfold big
  rw [Int.one_mul]
  exact Int.pow_pos (by decide)
theorem shl_big : pShl (.int 1) (.int 6000) = some (.int big) := by
  rw [pShl_i, if_pos (show CPow 1 6000 from ⟨by decide, by decide, by decide⟩)]
  rfl
theorem dr0 (c : List PV) (a f s n size : Int) (y : Option PV) : (sAugIx 0 (rC (.int 1)) pIxL (eC (.int 1)) pAddI pSetL : SM) [some (.lst [.lst c, .int a, .int f, .int s]), some (.int n), some (.int size), none, y] = .next [some (.lst [.lst c, .int (a + 1), .int f, .int s]), some (.int n), some (.int size), none, y] := by
  simp
theorem dr1 (c : List PV) (a f s n size : Int) (y : Option PV) (h : ¬ 2000000000000000000 ≤ size) : (sIf (bE (eN (rOp pGe (rVar 2) (rOp pMul (rC (.int 2)) (rOp pPow (rC (.int 10)) (rC (.int 18))))))) (sSeq (sAsg (eN (rOp pMod (rCl pInt (raCons (rOp pDiv (rVar 2) (rC (.int 2))) (raNil))) (rOp pShl (rC (.int 1)) (rC (.int 6000))))) (tgN 3)) (sSeq (sSetIx 0 (rC (.int 2)) pSetL (eN (rOp pDiv (rVar 3) (rVar 1)))) (sRet (eN (rOp pMod (rCl pInt (raCons (rVar 3) (raNil))) (rVar 1)))))) (sNil) : SM) [some (.lst [.lst c, .int a, .int f, .int s]), some (.int n), some (.int size), none, y] = .next [some (.lst [.lst c, .int a, .int f, .int s]), some (.int n), some (.int size), none, y] := by
  simp [CMul, h]
theorem dr1b (c : List PV) (a f s n size B : Int) (y : Option PV) (h1 : 0 < n) (h2 : n < 1073741824) (hb : 0 < B) (hshl : pShl (.int 1) (.int 6000) = some (.int B)) (h : 2000000000000000000 ≤ size) : (sIf (bE (eN (rOp pGe (rVar 2) (rOp pMul (rC (.int 2)) (rOp pPow (rC (.int 10)) (rC (.int 18))))))) (sSeq (sAsg (eN (rOp pMod (rCl pInt (raCons (rOp pDiv (rVar 2) (rC (.int 2))) (raNil))) (rOp pShl (rC (.int 1)) (rC (.int 6000))))) (tgN 3)) (sSeq (sSetIx 0 (rC (.int 2)) pSetL (eN (rOp pDiv (rVar 3) (rVar 1)))) (sRet (eN (rOp pMod (rCl pInt (raCons (rVar 3) (raNil))) (rVar 1)))))) (sNil) : SM) [some (.lst [.lst c, .int a, .int f, .int s]), some (.int n), some (.int size), none, y] = .ret (.int (size / 2 % B % n)) [some (.lst [.lst c, .int a, .int (size / 2 % B / n), .int s]), some (.int n), some (.int size), some (.int (size / 2 % B)), y] := by
  simp [CMul, CDiv, h, h1, h2, hb, hshl]
theorem dr2 (c : List PV) (a f s n size : Int) (y : Option PV) : (sSetIx 0 (rC (.int 3)) pSetL (eN (rOp pMod (rCl pInt (raCons (rOp pAdd (rOp pAdd (rOp pAdd (rOp pMul (rOp pIx (rVar 0) (rC (.int 3))) (rC (.int 48271))) (rOp pMul (rOp pMod (rCl pInt (raCons (rVar 2) (raNil))) (rC (.int 2147483629))) (rC (.int 16807)))) (rOp pMul (rOp pIx (rVar 0) (rC (.int 1))) (rC (.int 69621)))) (rC (.int 11))) (raNil))) (rC (.int 2147483647)))) : SM) [some (.lst [.lst c, .int a, .int f, .int s]), some (.int n), some (.int size), none, y] = .next [some (.lst [.lst c, .int a, .int f, .int ((s * 48271 + size % 2147483629 * 16807 + a * 69621 + 11) % 2147483647)]), some (.int n), some (.int size), none, y] := by
  simp [CMul]
theorem dr3 (c : List PV) (a f s n size : Int) (y : Option PV) (h1 : 0 < n) : (sRet (eN (rOp pMod (rCl pInt (raCons (rOp pDiv (rOp pIx (rVar 0) (rC (.int 3))) (rC (.int 16))) (raNil))) (rVar 1))) : SM) [some (.lst [.lst c, .int a, .int f, .int s]), some (.int n), some (.int size), none, y] = .ret (.int (s / 16 % n)) [some (.lst [.lst c, .int a, .int f, .int s]), some (.int n), some (.int size), none, y] := by
  simp [CDiv, h1]
theorem draw_big (d : Dr) (n size B : Int) (y : Option PV) (h1 : 0 < n) (h2 : n < 1073741824) (hb : 0 < B) (hshl : pShl (.int 1) (.int 6000) = some (.int B)) (h : 2000000000000000000 ≤ size) :
    endF [d.pv, .int n] (bDrawR [some d.pv, some (.int n), some (.int size), none, y]) = .ok (.int (size / 2 % B % n)) [some (Dr.mk d.cells (d.at_ + 1) (size / 2 % B / n) d.seed).pv, some (.int n)] := by
  unfold bDrawR Dr.pv
  rw [sSeq_ap, dr0, andThen_next, sSeq_ap, dr1b _ _ _ _ _ _ B _ h1 h2 hb hshl h, andThen_ret]
  rfl
theorem draw_small (d : Dr) (n size : Int) (y : Option PV) (h1 : 0 < n) (h2 : n < 1073741824) (h : ¬ 2000000000000000000 ≤ size) : ∃ z : Int,
    endF [d.pv, .int n] (bDrawR [some d.pv, some (.int n), some (.int size), none, y]) = .ok (.int (z / 16 % n)) [some (Dr.mk d.cells (d.at_ + 1) d.held z).pv, some (.int n)] := by
  refine ⟨(d.seed * 48271 + size % 2147483629 * 16807 + ((d.at_ : Int) + 1) * 69621 + 11) % 2147483647, ?_⟩
  unfold bDrawR Dr.pv
  rw [sSeq_ap, dr0, andThen_next, sSeq_ap, dr1 _ _ _ _ _ _ _ h, andThen_next, sSeq_ap, dr2, andThen_next]
  generalize (d.seed * 48271 + size % 2147483629 * 16807 + ((d.at_ : Int) + 1) * 69621 + 11) % 2147483647 = z
  rw [dr3 _ _ _ _ _ _ _ h1]
  rfl
theorem draw_rest (d : Dr) (n size : Int) (y : Option PV) (h1 : 0 < n) (h2 : n < 1073741824) : ∃ (r : Int) (d' : Dr), endF [d.pv, .int n] (bDrawR [some d.pv, some (.int n), some (.int size), none, y]) = .ok (.int r) [some d'.pv, some (.int n)] ∧ 0 ≤ r ∧ r < n := by
  have rng : ∀ x : Int, 0 ≤ x % n ∧ x % n < n := fun x => ⟨Int.emod_nonneg _ (by omega), Int.emod_lt_of_pos _ h1⟩
  by_cases h : 2000000000000000000 ≤ size
  · exact ⟨_, _, draw_big d n size big y h1 h2 big_pos shl_big h, rng _⟩
  · obtain ⟨z, e⟩ := draw_small d n size y h1 h2 h
    exact ⟨_, _, e, rng _⟩
theorem draw_ok (d : Dr) (n : Int) (h1 : 0 < n) (h2 : n < 1073741824) : ∃ (r : Int) (d' : Dr), mDraw [d.pv, .int n] = .ok (.int r) [some d'.pv, some (.int n)] ∧ 0 ≤ r ∧ r < n := by
  have rng : ∀ x : Int, 0 ≤ x % n ∧ x % n < n := fun x => ⟨Int.emod_nonneg _ (by omega), Int.emod_lt_of_pos _ h1⟩
  by_cases h : 0 < d.held
  · refine ⟨d.held % n, ⟨d.cells, d.at_, d.held / n, d.seed⟩, ?_, rng _⟩
    unfold mDraw
    rw [fnM_at rfl]
    simp [bDraw, Dr.pv, h, CDiv, h1, h2]
  · unfold mDraw
    rw [fnM_at rfl]
    by_cases hc : d.at_ < d.cells.length
    · have hat : atI (d.cells.map PV.int) d.at_ = some (.int d.cells[d.at_]) := by
        rw [at_nat _ _ (by omega)]
        simp [hc]
      obtain ⟨r, d', e, hr⟩ := draw_rest d n (2 * (if d.cells[d.at_] < 0 then -d.cells[d.at_] else d.cells[d.at_]) + (if d.cells[d.at_] < 0 then 1 else 0)) (some (.int d.cells[d.at_])) h1 h2
      refine ⟨r, d', ?_, hr⟩
      rw [← e]
      simp [bDraw, Dr.pv, h, hc, hat, CMul]
    · obtain ⟨r, d', e, hr⟩ := draw_rest d n 0 none h1 h2
      refine ⟨r, d', ?_, hr⟩
      rw [← e]
      simp [bDraw, Dr.pv, h, hc]
end PVL

/-! M2: more of what the laws have in common. -/
namespace PVL
open PySem PySem.Spec L2
def bBegin : SM := sRet (eLst (aCons (gOwn (eLC (itS (eSl pSl (gRef 0) (oNone) (oSome (eC (.int 63))))) [1] (tgN 1) (bYes) (eN (rCl pInt (raCons (rVar 1) (raNil)))))) (aCons (gOwn (eC (.int 0))) (aCons (gOwn (eC (.int 0))) (aCons (gOwn (eC (.int 7))) (aNil))))))
def mBegin : FM := fnM 1 2 [] bBegin
def bPick : SM := sRet (eOp (fun x y => immO (pIx x y)) (gRef 1) (gOwn (eCall mDraw (aCons (gRef 0) (aCons (gOwn (eN (rCl pLen (raCons (rVar 1) (raNil))))) (aNil))))))
def mPick : FM := fnM 2 2 [] bPick
def bRare : SM := sRet (eOp pEq (gOwn (eCall mDraw (aCons (gRef 0) (aCons (gRef 1) (aNil))))) (gOwn (eN (rOp pDiv (rVar 1) (rC (.int 2))))))
def mRare : FM := fnM 2 2 [] bRare
def bIsInt : SM := sRet (eAnd (eN (rCl pIsi (raCons (rVar 0) (raCons (rC (.ty "int")) (raNil))))) (eNot (eN (rCl pIsi (raCons (rVar 0) (raCons (rC (.ty "bool")) (raNil)))))))
def mIsInt : FM := fnM 1 1 [] bIsInt
def bSame (n : Nat) (self : FM) : SM := sSeq (sIf (bE (eN (rCl pIsi (raCons (rVar 0) (raCons (rC (.ty "tuple")) (raNil)))))) (sSeq (sIf (bOr (bNot (bE (eN (rCl pIsi (raCons (rVar 1) (raCons (rC (.ty "tuple")) (raNil))))))) (bE (eN (rOp pNe (rCl pLen (raCons (rVar 0) (raNil))) (rCl pLen (raCons (rVar 1) (raNil))))))) (sRet (eC (.bl false))) (sNil)) (sRet (eOp pEq (gOwn (eCl pLen (aCons (gOwn (eLC (itR1 (aCons (gOwn (eN (rCl pLen (raCons (rVar 0) (raNil))))) (aNil))) [2] (tgN 2) (bNot (bE (eCall self (aCons (gOwn (eR (rOp pIx (rVar 0) (rVar 2)))) (aCons (gOwn (eR (rOp pIx (rVar 1) (rVar 2)))) (aNil)))))) (eVar 2))) (aNil)))) (gOwn (eC (.int 0)))))) (sNil)) (sSeq (sIf (bOr (bE (eN (rCl pIsi (raCons (rVar 0) (raCons (rC (.ty "bool")) (raNil)))))) (bOr (bE (eN (rOp pIsN (rVar 0) (rC .non)))) (bE (eN (rCl pIsi (raCons (rVar 0) (raCons (rC (.ty "str")) (raNil)))))))) (sRet (eAnd (eN (rOp pEq (rCl pIsi (raCons (rVar 0) (raCons (rC (.ty "bool")) (raNil)))) (rCl pIsi (raCons (rVar 1) (raCons (rC (.ty "bool")) (raNil)))))) (eN (rOp pEq (rVar 0) (rVar 1))))) (sNil)) (sRet (eAnd (eCall mIsInt (aCons (gRef 0) (aNil))) (eAnd (eCall mIsInt (aCons (gRef 1) (aNil))) (eN (rOp pEq (rVar 0) (rVar 1)))))))
def mSame : Nat → FM
  | 0 => fBad
  | n + 1 => fnM 2 3 [] (bSame n (mSame n))

theorem pcut_map {α β : Type} (f : α → β) (l : List α) (lo hi : Option Int) : pcut (l.map f) lo hi = (pcut l lo hi).map f := by
  unfold pcut
  rw [List.length_map, ← List.map_drop, ← List.map_take]
theorem begin_ok (ns : List Int) : ∃ d : Dr, mBegin [.frz (ns.map .int)] = .ok d.pv [some (.frz (ns.map .int))] := by
  have hi : immL (pcut (ns.map PV.int) none (some 63)) = true := by
    rw [pcut_map]
    exact immL_ints _
  have hl : (pcut (ns.map PV.int) none (some 63)).length ≤ 63 := by
    unfold pcut
    simp only [List.length_take, List.length_drop]
    have : HT.sIx (ns.map PV.int).length (ns.map PV.int).length (some 63) ≤ 63 := by
      show (if (63 : Int) < 0 then ((63 : Int) + ((ns.map PV.int).length : Int)).toNat else min (63 : Int).toNat (ns.map PV.int).length) ≤ 63
      rw [if_neg (by decide)]
      exact Nat.min_le_left _ _
    omega
  have hm : ∃ l : List Int, pcut (ns.map PV.int) none (some 63) = l.map PV.int := ⟨_, pcut_map _ _ _ _⟩
  obtain ⟨l, e⟩ := hm
  rw [e] at hi hl
  rw [List.length_map] at hl
  have loop : ∀ (r acc : List Int), acc.length + r.length ≤ 63 → lcL [1] (tgN 1) bYes (eN (rCl pInt (raCons (rVar 1) raNil))) (r.map PV.int) (acc.map PV.int) [some (.frz (ns.map .int)), none] = .ok (.lst ((acc ++ r).map PV.int)) [some (.frz (ns.map .int)), none] := by
    intro r
    induction r with
    | nil => intro acc _; simp
    | cons x r ih =>
      intro acc h
      have hs : acc.length < sizeLine := by
        rw [sizeLine_eq]
        simp only [List.length_cons] at h
        omega
      have := ih (acc ++ [x]) (by simp only [List.length_append, List.length_cons, List.length_nil] at h ⊢; omega)
      rw [List.map_cons, lcL_cons]
      simp [hs]
      simpa using this
  have := loop l [] (by simpa using hl)
  refine ⟨⟨l, 0, 0, 7⟩, ?_⟩
  unfold mBegin
  rw [fnM_at rfl]
  simp [bBegin, e]
  simp at this
  rw [this]
  have h4 : 4 ≤ sizeLine := by rw [sizeLine_eq]; omega
  simp [h4, Dr.pv]

theorem at_lt {α : Type} (xs : List α) (r : Int) (h0 : 0 ≤ r) (h1 : r < xs.length) : ∃ h : r.toNat < xs.length, atI xs r = some xs[r.toNat] := by
  have h : r.toNat < xs.length := by omega
  refine ⟨h, ?_⟩
  rw [at_nat _ _ h0]
  simp [h]
theorem pick_l (d : Dr) (xs : List PV) (h : 0 < xs.length) (h2 : xs.length < 1073741824) (hi : immL xs = true) : ∃ (i : Nat) (hl : i < xs.length) (d' : Dr), mPick [d.pv, .lst xs] = .ok xs[i] [some d'.pv, some (.lst xs)] := by
  obtain ⟨r, d', e, r0, r1⟩ := draw_ok d xs.length (by omega) (by omega)
  obtain ⟨hl, ea⟩ := at_lt xs r r0 r1
  refine ⟨r.toNat, hl, d', ?_⟩
  unfold mPick
  rw [fnM_at rfl]
  simp [bPick, e, ea, immL_mem hi _ (List.getElem_mem hl)]
theorem pick_t (d : Dr) (xs : List PV) (h : 0 < xs.length) (h2 : xs.length < 1073741824) (hi : immL xs = true) : ∃ (i : Nat) (hl : i < xs.length) (d' : Dr), mPick [d.pv, .tup xs] = .ok xs[i] [some d'.pv, some (.tup xs)] := by
  obtain ⟨r, d', e, r0, r1⟩ := draw_ok d xs.length (by omega) (by omega)
  obtain ⟨hl, ea⟩ := at_lt xs r r0 r1
  refine ⟨r.toNat, hl, d', ?_⟩
  unfold mPick
  rw [fnM_at rfl]
  simp [bPick, e, ea, immL_mem hi _ (List.getElem_mem hl), hi]
theorem rare_ok (d : Dr) (n : Int) (h1 : 0 < n) (h2 : n < 1073741824) : ∃ (b : Bool) (d' : Dr), mRare [d.pv, .int n] = .ok (.bl b) [some d'.pv, some (.int n)] := by
  obtain ⟨r, d', e, r0, r1⟩ := draw_ok d n h1 h2
  refine ⟨decide (r = n / 2), d', ?_⟩
  unfold mRare
  rw [fnM_at rfl]
  simp [bRare, e, CDiv]
@[simp] theorem is_int_int (i : Int) : mIsInt [.int i] = .ok (.bl true) [some (.int i)] := by
  unfold mIsInt
  rw [fnM_at rfl]
  simp [bIsInt]
/-- plain data: ints, texts, truths, None, tuples of such, less than n deep -/
def plain : Nat → PV → Bool
  | 0, _ => false
  | _ + 1, .int _ => true
  | _ + 1, .str _ => true
  | _ + 1, .bl _ => true
  | _ + 1, .non => true
  | n + 1, .tup xs => decide (xs.length ≤ 16777216) && xs.all (plain n)
  | _ + 1, _ => false
theorem plain_imm : ∀ {n : Nat} {x : PV}, plain n x = true → x.imm = true
  | n + 1, .int _, _ => rfl
  | n + 1, .str _, _ => rfl
  | n + 1, .bl _, _ => rfl
  | n + 1, .non, _ => rfl
  | n + 1, .tup xs, h => by
    simp only [plain, Bool.and_eq_true, List.all_eq_true] at h
    rw [imm_tup]
    exact immL_all fun x hx => plain_imm (h.2 x hx)
theorem lcL_none {vs : List Nat} {t : TM} {c : BM} {m : EM} {env : PEnv} : ∀ l : List PV, (∀ x ∈ l, ∃ e e2, t x env = some e ∧ c e = .ok false e2 ∧ envWipe e2 vs = env) → lcL vs t c m l [] env = .ok (.lst []) env
  | [], _ => rfl
  | x :: r, h => by
    obtain ⟨e, e2, h1, h2, h3⟩ := h x (List.mem_cons_self ..)
    rw [lcL_cons, h1]
    simp only [h2, Bool.false_eq_true, if_false, h3]
    exact lcL_none r fun y hy => h y (List.mem_cons_of_mem _ hy)
theorem mem_rng {n : Nat} {x : PV} (h : x ∈ rngL 0 n) : ∃ k : Nat, k < n ∧ x = .int k := by
  unfold rngL at h
  obtain ⟨k, hk, rfl⟩ := List.mem_map.mp h
  exact ⟨k, List.mem_range.mp hk, by simp⟩
theorem same_step (n : Nat) (xs : List PV) (hi : immL xs = true) (k : Nat) (hk : k < xs.length) (hs : mSame n [xs[k], xs[k]] = .ok (.bl true) [some xs[k], some xs[k]]) : bNot (bE (eCall (mSame n) (aCons (gOwn (eR (rOp pIx (rVar 0) (rVar 2)))) (aCons (gOwn (eR (rOp pIx (rVar 1) (rVar 2)))) (aNil))))) [some (.tup xs), some (.tup xs), some (.int k)] = .ok false [some (.tup xs), some (.tup xs), some (.int k)] := by
  have ea : atI xs (k : Int) = some xs[k] := by
    rw [at_nat _ _ (by omega)]
    simp [hk]
  have im := immL_mem hi _ (List.getElem_mem hk)
  simp [ea, im, hs, hi]
theorem same_key (n : Nat) (xs : List PV) (hi : immL xs = true) (hs : ∀ x ∈ xs, mSame n [x, x] = .ok (.bl true) [some x, some x]) : lcL [2] (tgN 2) (bNot (bE (eCall (mSame n) (aCons (gOwn (eR (rOp pIx (rVar 0) (rVar 2)))) (aCons (gOwn (eR (rOp pIx (rVar 1) (rVar 2)))) (aNil)))))) (eVar 2) (rngL 0 xs.length) [] [some (.tup xs), some (.tup xs), none] = .ok (.lst []) [some (.tup xs), some (.tup xs), none] := by
  refine lcL_none _ fun x hx => ?_
  obtain ⟨k, hk, rfl⟩ := mem_rng hx
  exact ⟨[some (.tup xs), some (.tup xs), some (.int k)], [some (.tup xs), some (.tup xs), some (.int k)], by simp, same_step n xs hi k hk (hs _ (List.getElem_mem hk)), by simp⟩
theorem same_tup (n : Nat) (xs : List PV) (hl : xs.length ≤ 16777216) (hi : immL xs = true) (hs : ∀ x ∈ xs, mSame n [x, x] = .ok (.bl true) [some x, some x]) : mSame (n + 1) [.tup xs, .tup xs] = .ok (.bl true) [some (.tup xs), some (.tup xs)] := by
  show fnM 2 3 [] (bSame n (mSame n)) _ = _
  rw [fnM_at rfl]
  have hr : rngOk (xs.length : Int) := rngOk_of (by omega) (by omega)
  have key := same_key n xs hi hs
  simp [bSame, hi, hr, key]
theorem same_ok : ∀ (n : Nat) (x : PV), plain n x = true → mSame n [x, x] = .ok (.bl true) [some x, some x] := by
  intro n
  induction n with
  | zero => intro x h; cases x <;> simp [plain] at h
  | succ n ih =>
    intro x h
    cases x with
    | int i =>
      show fnM 2 3 [] (bSame n (mSame n)) _ = _
      rw [fnM_at rfl]
      simp [bSame]
    | str i =>
      show fnM 2 3 [] (bSame n (mSame n)) _ = _
      rw [fnM_at rfl]
      simp [bSame]
    | bl i =>
      show fnM 2 3 [] (bSame n (mSame n)) _ = _
      rw [fnM_at rfl]
      simp [bSame]
    | non =>
      show fnM 2 3 [] (bSame n (mSame n)) _ = _
      rw [fnM_at rfl]
      simp [bSame, pEq, eqB, scEq]
    | tup xs =>
      have hi := plain_imm h
      rw [imm_tup] at hi
      simp only [plain, Bool.and_eq_true, List.all_eq_true, decide_eq_true_eq] at h
      exact same_tup n xs h.1 hi fun x hx => ih x (h.2 x hx)
    | _ => simp [plain] at h
end PVL

/-! P10: chained comparisons, methods of texts, str(), pop, calls without arguments. -/
namespace PVL
open PySem PySem.Spec L2
/-! ### a op b op c, upon read operands -/
def rChain (f g : PV → PV → Option PV) (a b c : RM) : RM := fun env => (a env).bind fun x => (b env).bind fun y => match f x y with
  | some (.bl true) => (c env).bind fun z => g y z
  | some (.bl false) => some (.bl false)
  | _ => none
section
variable {K : PySem.W.Frag} {mg : Str → Option Value} {W : WX}
theorem im_rChain {r r' : R2} {f g : PV → PV → Option PV} {ta tb tc : TE} {a b c : RM} (hs : SimR2 K r f) (hs' : SimR2 K r' g) (ha : ImR K ta a) (hb : ImR K tb b) (hc : ImR K tc c) : ImR K (tChain r r' ta tb tc) (rChain f g a b c) := by
  intro σ H Q env F hr hp
  unfold rChain at hp
  refine ha σ H _ env F hr ?_
  cases ea : a env with
  | none => rw [ea] at hp; exact hp
  | some x =>
    rw [ea] at hp
    intro v H1 Fv s1 rx
    refine hb σ H1 _ env F (hr.sm s1) ?_
    cases eb : b env with
    | none => rw [eb] at hp; exact hp
    | some y =>
      rw [eb] at hp
      intro u H2 Fu s2 ry
      refine hs v u H2 _ x y Fv Fu (rx.sm s2) ry ?_
      simp only [Option.bind_some] at hp
      cases ef : f x y with
      | none => rw [ef] at hp; exact hp.elim
      | some z =>
        rw [ef] at hp
        intro z' H3 F3 s3 rz _ _
        cases z with
        | bl k =>
          simp only [RV] at rz
          refine ⟨k, rz.1, ?_⟩
          cases k with
          | false =>
            rw [if_neg Bool.false_ne_true]
            exact hp (.bl false) H3 [] ((s1.trans s2).trans s3) (by simp [RV])
          | true =>
            rw [if_pos rfl]
            refine hc σ H3 _ env F (hr.sm ((s1.trans s2).trans s3)) ?_
            cases ec : c env with
            | none => simp only [ec] at hp; exact hp
            | some q =>
              simp only [ec, Option.bind_some] at hp
              intro w H4 Fw s4 rw'
              refine hs' u w H4 Q y q Fu Fw ((ry.sm s3).sm s4) rw' ?_
              cases eg : g y q with
              | none => rw [eg] at hp; exact hp.elim
              | some zz =>
                rw [eg] at hp
                exact fun v5 H5 F5 s5 r5 _ _ => hp v5 H5 F5 ((((s1.trans s2).trans s3).trans s4).trans s5) r5
        | _ => exact hp.elim
/-- what is only read, as a value without a mutable part -/
theorem im_eRi {t : TE} {m : RM} (h : ImR K t m) : ImE K mg W t (eR m) := im_eR h
/-! ### methods of texts -/
def eSM0 (f : Str → Option PV) (m : EM) : EM := fun env => (m env).bind fun x e => match x with
  | .str z => ofO (f z) e
  | _ => .bad
def eSM1 (f : Str → PV → Option PV) (m : EM) (g : GM) : EM := fun env => (m env).bind fun x e1 => match x with
  | .str z => (g e1).bind fun y e2 => ofO ((seeG e2 y).bind fun p => f z p) e2
  | _ => .bad
def SimS0 (K : PySem.W.Frag) (r : V → List V → Hp → VK → Prop) (f : Str → Option PV) : Prop := ∀ z H Q, NewO K H Q (f z) → r (.str z) [] H Q
def SimS1 (K : PySem.W.Frag) (r : V → List V → Hp → VK → Prop) (f : Str → PV → Option PV) : Prop := ∀ z y H Q py Fy, RV K H py y Fy → NewO K H Q (f z py) → r (.str z) [y] H Q
theorem im_eSM0 {r : V → List V → Hp → VK → Prop} {f : Str → Option PV} {to : TE} {m : EM} (hs : SimS0 K r f) (ho : ImE K mg W to m) : ImE K mg W (tM0 r to) (eSM0 f m) := by
  intro σ H Q env F hr hn hp
  refine ho σ H _ env F hr hn (hp.bind.imp fun x e1 q1 v H1 Fv F1 hr1 hx hn1 hf1 => ?_)
  cases x with
  | str z =>
    simp only [RV] at hx
    obtain ⟨rfl, rfl⟩ := hx
    exact ⟨⟨z, rfl⟩, hs z H1 Q (fin_new hr1 (nd_right hn1) (fm_left hf1) q1)⟩
  | _ => exact q1.elim
theorem im_eSM1 {r : V → List V → Hp → VK → Prop} {f : Str → PV → Option PV} {to te : TE} {m : EM} {g : GM} (hs : SimS1 K r f) (ho : ImE K mg W to m) (hg : ImG K mg W te g) : ImE K mg W (tM1 r to te) (eSM1 f m g) := by
  intro σ H Q env F hr hn hp
  refine ho σ H _ env F hr hn (hp.bind.imp fun x e1 q1 v H1 Fv F1 hr1 hx hn1 hf1 => ?_)
  cases x with
  | str z =>
    simp only [RV] at hx
    obtain ⟨rfl, rfl⟩ := hx
    refine ⟨⟨z, rfl⟩, hg σ H1 _ e1 F1 hr1 (nd_right hn1) ((q1.bind.later (fm_left hf1)) fun y e2 q2 u H2 Gv F2 hr2 hy hn2 hf2 => ?_)⟩
    cases ey : seeG e2 y with
    | none => rw [ey] at q2; exact q2.elim
    | some p =>
      rw [ey] at q2
      obtain ⟨Fy, ry⟩ := seeG_ok hr2 hy ey
      exact hs z u H2 Q p Fy ry (fin_new hr2 (nd_right hn2) (fm_left hf2) (q2.later (fm_left hf1) fun _ _ z v' H' Fv' F' a b c d => z v' H' Fv' F' a b c ((fm_left hf1).trans d)))
  | _ => exact q1.elim
theorem rvl_strs {H : Hp} : ∀ ys : List Str, RVL K H (ys.map PV.str) (ys.map V.str) []
  | [] => by simp [RVL]
  | y :: r => by
    simp only [List.map_cons, RVL]
    exact ⟨_, _, [], [], rfl, by simp [RV], rvl_strs r, rfl⟩
/-- z.split(sep) -/
def pSplit (z : Str) : PV → Option PV
  | .str b => if (b.length == 0) = false ∧ z.length + 2 ≤ sizeLine then some (.lst ((Txt.split z b).map .str)) else none
  | _ => none
theorem sim_split : SimS1 K rSplitAny pSplit := by
  intro z y H Q py Fy hy q
  unfold pSplit at q
  split at q
  · rename_i b
    split at q
    · rename_i hz
      exact .inl ⟨z, b, rfl, by rw [rv_str hy], hz.1, hz.2, New.lst q (rvl_strs _)⟩
    · exact q.elim
  · exact q.elim
/-- texts alone -/
def strsOf : List PV → Option (List Str)
  | [] => some []
  | .str x :: r => (strsOf r).map (x :: ·)
  | _ :: _ => none
theorem strsOf_ok : ∀ {xs : List PV} {ys : List Str}, strsOf xs = some ys → xs = ys.map .str
  | [], ys, h => by simp only [strsOf, Option.some.injEq] at h; rw [← h]; rfl
  | .str x :: r, ys, h => by
    simp only [strsOf, Option.map_eq_some_iff] at h
    obtain ⟨zs, h1, rfl⟩ := h
    rw [strsOf_ok h1]; rfl
theorem rvl_strs_eq {H : Hp} : ∀ {ys : List Str} {vs : List V} {F : List Addr}, RVL K H (ys.map PV.str) vs F → vs = ys.map V.str
  | [], vs, F, h => by simp only [List.map_nil, RVL] at h; exact h.1
  | y :: r, vs, F, h => by
    simp only [List.map_cons, RVL] at h
    obtain ⟨v, vr, F1, F2, rfl, h1, h2, _⟩ := h
    rw [rv_str h1, rvl_strs_eq h2]; rfl
def seqItems : PV → Option (List PV)
  | .lst xs => some xs
  | .tup xs => some xs
  | .frz xs => some xs
  | _ => none
/-- z.join(texts) -/
def pJoin (z : Str) (p : PV) : Option PV := (seqItems p).bind fun xs => (strsOf xs).bind fun ys => if (ys.map (·.length)).sum + ys.length * z.length ≤ 16777216 then some (.str (Txt.join z ys)) else none
abbrev rJoinP (K : PySem.W.Frag) : V → List V → Hp → VK → Prop := fun x xs H Q => ∃ a p, ∃ ys : List Str, x = .str a ∧ xs = [.ref p] ∧ (SqL K H p (ys.map V.str) ∨ SqT K H p (ys.map V.str)) ∧ (ys.map (·.length)).sum + ys.length * a.length ≤ 16777216 ∧ Q (.str (Txt.join a ys)) H
theorem sim_join : SimS1 K (rJoinP K) pJoin := by
  intro z y H Q py Fy hy q
  unfold pJoin at q
  cases es : seqItems py with
  | none => rw [es] at q; exact q.elim
  | some xs =>
    rw [es, Option.bind_some] at q
    cases et : strsOf xs with
    | none => rw [et] at q; exact q.elim
    | some ys =>
      rw [et, Option.bind_some] at q
      by_cases hz : (ys.map (·.length)).sum + ys.length * z.length ≤ 16777216
      · rw [if_pos hz] at q
        have ex := strsOf_ok et
        subst ex
        cases py with
        | lst l =>
          simp only [seqItems, Option.some.injEq] at es
          subst es
          simp only [RV] at hy
          obtain ⟨a, vs, F', rfl, ha, hl, _⟩ := hy
          rw [rvl_strs_eq hl] at ha
          exact ⟨z, a, ys, rfl, rfl, .inl (SqL.of ha), hz, q.str⟩
        | tup l =>
          simp only [seqItems, Option.some.injEq] at es
          subst es
          simp only [RV] at hy
          obtain ⟨a, vs, rfl, ha, hl⟩ := hy
          rw [rvl_strs_eq hl] at ha
          exact ⟨z, a, ys, rfl, rfl, .inr ha, hz, q.str⟩
        | frz l =>
          simp only [seqItems, Option.some.injEq] at es
          subst es
          simp only [RV] at hy
          obtain ⟨a, vs, rfl, ha, hl, _⟩ := hy
          rw [rvl_strs_eq hl] at ha
          exact ⟨z, a, ys, rfl, rfl, .inl ha.toL, hz, q.str⟩
        | _ => simp [seqItems] at es
      · rw [if_neg hz] at q; exact q.elim
/-! ### str(x) -/
def pStr : List PV → Option PV
  | [.int i] => if i.natAbs.log2 < 1920 then some (.str (toString i)) else none
  | [.str a] => some (.str a)
  | _ => none
abbrev rStrP : List V → Hp → VK → Prop := fun xs H Q => (∃ i, xs = [.int i] ∧ i.natAbs.log2 < 1920 ∧ Q (.str (toString i)) H) ∨ ∃ a, xs = [.str a] ∧ Q (.str a) H
theorem call_strP {X : Cx} : CallR X (.type "str") rStrP := call_str_int.or SkE.call_str_str
theorem sim_str : SimL K rStrP pStr := by
  intro xs H Q ps hb q
  unfold pStr at q
  split at q
  · rename_i i
    split at q
    · rename_i hz
      obtain ⟨v, F, rfl, hv⟩ := rb1 hb
      exact .inl ⟨i, by rw [rv_int hv], hz, q.str⟩
    · exact q.elim
  · rename_i a
    obtain ⟨v, F, rfl, hv⟩ := rb1 hb
    exact .inr ⟨a, by rw [rv_str hv], q.str⟩
  · exact q.elim
/-! ### pop -/
theorem RVL.eraseN {H : Hp} {xs : List PV} {vs : List V} (k : Nat) (h : RVL K H xs vs []) : RVL K H (xs.eraseIdx k) (vs.eraseIdx k) [] := by
  rw [List.eraseIdx_eq_take_drop_succ, List.eraseIdx_eq_take_drop_succ]
  exact (h.take k).append (h.drop (k + 1))
def pPopAt : PV → List PV → Option (PV × PV)
  | .lst xs, [.int i] => if i.natAbs < 2 ^ 63 ∧ immL xs = true then (match seqIndex? i xs.length with
      | some k => (xs[k]?).map fun y => (y, .lst (xs.eraseIdx k))
      | none => none) else none
  | _, _ => none
theorem sim_popAt : SimM K rPopAt pPopAt := by
  intro x vs H Q p xs Fx Fa hx ha n q
  unfold pPopAt at q
  split at q
  · rename_i xs i
    split at q
    · rename_i hz
      split at q
      · rename_i k hk
        cases ey : xs[k]? with
        | none => rw [ey] at q; exact q.elim
        | some y =>
          rw [ey] at q
          simp only [RV] at hx
          obtain ⟨a, ws, F', rfl, hH, hl, rfl⟩ := hx
          have e' := RVL.imm hz.2 hl
          subst e'
          obtain ⟨v, rfl, hv⟩ := rvl1 ha
          obtain ⟨w, F1, ew, rw', hF⟩ := hl.get ey
          have eF : F1 = [] := List.eq_nil_iff_forall_not_mem.mpr fun b z => by simpa using hF b z
          subst eF
          have hi := hz.1
          have ev := rv_int hv
          have eFa : Fa = [] := RVL.imm (xs := [.int i]) (by simp [immL, PV.imm]) ha
          subst eFa
          refine ⟨a, ws, i, k, w, rfl, by rw [ev], hH, by omega, by omega, by rw [hl.length]; exact hk, ew, ?_⟩
          refine q w _ [] [a] ?_ ?_ (by simp) ⟨fun b o nb e => ?_, fun b z => .inl (by simpa using z)⟩
          · simp only [RV]
            exact ⟨a, _, [], rfl, upd_same, (hl.eraseN k).keep (keep_upd hH rfl (by simp)), rfl⟩
          · exact rw'.keep (keep_upd hH rfl (by simp))
          · rw [upd_ne]
            · exact e
            · intro z; subst z; exact nb (by simp)
      · exact q.elim
    · exact q.elim
  · exact q.elim
def pPop : PV → List PV → Option (PV × PV)
  | .lst xs, [] => if immL xs = true then (xs[xs.length - 1]?).map fun y => (y, .lst xs.dropLast) else none
  | _, _ => none
theorem sim_pop : SimM K rPop pPop := by
  intro x vs H Q p xs Fx Fa hx ha n q
  unfold pPop at q
  split at q
  · rename_i xs
    split at q
    · rename_i hz
      cases ey : xs[xs.length - 1]? with
      | none => rw [ey] at q; exact q.elim
      | some y =>
        rw [ey] at q
        simp only [RV] at hx
        obtain ⟨a, ws, F', rfl, hH, hl, rfl⟩ := hx
        have e' := RVL.imm hz hl
        subst e'
        simp only [RVL] at ha
        obtain ⟨rfl, rfl⟩ := ha
        obtain ⟨w, F1, ew, rw', hF⟩ := hl.get ey
        have eF : F1 = [] := List.eq_nil_iff_forall_not_mem.mpr fun b z => by simpa using hF b z
        subst eF
        have hlen := hl.length
        refine ⟨a, ws, w, rfl, rfl, hH, by rw [hlen]; exact ew, ?_⟩
        refine q w _ [] [a] ?_ ?_ (by simp) ⟨fun b o nb e => ?_, fun b z => .inl (by simpa using z)⟩
        · simp only [RV]
          refine ⟨a, _, [], rfl, upd_same, ?_, rfl⟩
          have := (hl.take (xs.length - 1)).keep (H' := upd H a (.lst ws.dropLast)) (keep_upd hH rfl (by simp))
          rw [List.dropLast_eq_take, List.dropLast_eq_take, hlen]
          rw [List.dropLast_eq_take, hlen] at this
          exact this
        · exact rw'.keep (keep_upd hH rfl (by simp))
        · rw [upd_ne]
          · exact e
          · intro z; subst z; exact nb (by simp)
    · exact q.elim
  · exact q.elim
end
/-! ### joint -/
section
variable {X : Cx} {W : WX} {e o a b c : Expr} {te to ta tb tc : TE} {m : EM} {g : GM} {ra rb rc : RM} {pos apos : Pos}
theorem jr_chain {op op' : CmpOp} {r r' : R2} {f f' : PV → PV → Option PV} (hs : SimR2 X.K r f) (ho : OpR X (compareOp op) r) (hs' : SimR2 X.K r' f') (ho' : OpR X (compareOp op') r') (ha : JR X a ta ra) (hb : JR X b tb rb) (hc : JR X c tc rc)
    (hm : lastMarks [op, op'] [b, c] = false := by with_unfolding_all rfl) : JR X (.Compare a [op, op'] [b, c] pos) (tChain r r' ta tb tc) (rChain f f' ra rb rc) := ⟨pe_chain ho ho' ha.pe hb.pe hc.pe hm, im_rChain hs hs' ha.im hb.im hc.im⟩
theorem jn_chain {op op' : CmpOp} {r r' : R2} {f f' : PV → PV → Option PV} (hs : SimR2 X.K r f) (ho : OpR X (compareOp op) r) (hs' : SimR2 X.K r' f') (ho' : OpR X (compareOp op') r') (ha : JR X a ta ra) (hb : JR X b tb rb) (hc : JR X c tc rc)
    (hm : lastMarks [op, op'] [b, c] = false := by with_unfolding_all rfl) : JE X W (.Compare a [op, op'] [b, c] pos) (tChain r r' ta tb tc) (eR (rChain f f' ra rb rc)) := ⟨pe_chain ho ho' ha.pe hb.pe hc.pe hm, im_eR (im_rChain hs hs' ha.im hb.im hc.im)⟩
theorem jnt_chain {op op' : CmpOp} {r r' : R2} {f f' : PV → PV → Option PV} (hs : SimR2 X.K r f) (ho : OpR X (compareOp op) r) (hs' : SimR2 X.K r' f') (ho' : OpR X (compareOp op') r') (ha : JR X a ta ra) (hb : JR X b tb rb) (hc : JR X c tc rc)
    (hm : lastMarks [op, op'] [b, c] = false := by with_unfolding_all rfl) : JT X W (.Compare a [op, op'] [b, c] pos) (tTest (tChain r r' ta tb tc)) (bE (eR (rChain f f' ra rb rc))) := ⟨pt_chain ho ho' ha.pe hb.pe hc.pe hm, im_bE (im_eR (im_rChain hs hs' ha.im hb.im hc.im))⟩
theorem j_split (ho : JE X W o to m) (he : JG X W e te g) (hs : starEach [e] X.env = [(false, eval e X.env)] := by rfl) (hbase : attributeBase o "split" X.env (eval o X.env) = eval o X.env := by rfl) (hline : (apos.endLine == pos.line) = true := by rfl) :
    JE X W (.Call (.Attribute o "split" apos) [e] [] pos) (tM1 rSplitAny to te) (eSM1 pSplit m g) := ⟨pe_splitAny ho.pe he.pe hs hbase hline, im_eSM1 sim_split ho.im he.im⟩
theorem k_join (K : PySem.W.Frag) (ho : JE X W o to m) (he : JG X W e te g) (hK : X.K = K := by rfl) (hs : starEach [e] X.env = [(false, eval e X.env)] := by rfl) (hbase : attributeBase o "join" X.env (eval o X.env) = eval o X.env := by rfl) (hline : (apos.endLine == pos.line) = true := by rfl) :
    JE X W (.Call (.Attribute o "join" apos) [e] [] pos) (tM1 (rJoinP K) to te) (eSM1 pJoin m g) := by
  subst hK
  exact ⟨pe_join ho.pe he.pe hs hbase hline, im_eSM1 sim_join ho.im he.im⟩
theorem k_meth0 (K : PySem.W.Frag) {T id : String} {name x : Str} {i : Nat} {r : V → List V → Hp → VK → Prop} {f : PV → List PV → Option (PV × PV)} {p : Pos} (pa : PlainAttrs T) (slot : Slot T name id) (hty : typeOf (.builtin id) = pure (.type "method_descriptor")) (hs : SimM K r f) (hm : MtR X id r) (ho : JR X (.Name x p) (tVar i) (rVar i))
    (hK : X.K = K := by rfl) (hbase : attributeBase (.Name x p) name X.env (eval (.Name x p) X.env) = eval (.Name x p) X.env := by rfl) (hline : (apos.endLine == pos.line) = true := by rfl) :
    JE X W (.Call (.Attribute (.Name x p) name apos) [] [] pos) (tBM0 K T r (tVar i)) (eMeth0 T i f) := by
  subst hK
  exact j_meth0 pa slot hty hs hm ho hbase hline
/-- a def without arguments -/
theorem k_fn0 (K : PySem.W.Frag) (mg : Str → Option Value) {x : Str} {k : Nat} {fm : FM} {p : Pos} (cl : Cal X.prog X.w K mg X.base x k 0 fm) (hr : Room k X.A) (tk : Takes X W) (hK : X.K = K := by rfl) (hmg : X.mg = mg := by rfl) (hg : Gl X x := by rfl) (hdb : (x == ("__debug__" : Str)) = false := by decide) :
    JE X W (.Call (.Name x p) [] [] pos) (tCallS (spF K mg 0 fm) (WE W) tNil) (eCall fm aNil) := by
  subst hK
  subst hmg
  obtain ⟨f, fd, ps, F, hm, hk, hb⟩ := cl
  refine ⟨⟨fun pins s σ H Q I h => ?_⟩, im_eCall im_aNil fun env as e h => by simp only [aNil, EO.ok.injEq] at h; rw [← h.1]; rfl⟩
  refine wpAny_Call_Name_kw (ld_glob I hg hm ?_ hdb)
  exact PySem.W.callWith_K0 I.kIn hk (run_fnS F hr hb (passAt tk σ) I .nil h)
end
end PVL

/-! C1: pure functions that many laws have alike (printed by gen.py). -/
namespace PVL
open PySem PySem.Spec L2
/-! ### the pure functions -/
def b_m__law_begin : SM := sRet (eLst (aCons (gOwn (eLC (itS (eSl pSl (gRef 0) (oNone) (oSome (eC (.int 63))))) [1] (tgN 1) (bYes) (eN (rCl pInt (raCons (rVar 1) (raNil)))))) (aCons (gOwn (eC (.int 0))) (aCons (gOwn (eC (.int 0))) (aCons (gOwn (eC (.int 7))) (aNil))))))
def m__law_begin : FM := fnM 1 2 [] b_m__law_begin
def b_m__law_draw : SM := sSeq (sIf (bE (eN (rOp pGt (rOp pIx (rVar 0) (rC (.int 2))) (rC (.int 0))))) (sSeq (sAsg (eR (rOp pIx (rVar 0) (rC (.int 2)))) (tgN 3)) (sSeq (sSetIx 0 (rC (.int 2)) pSetL (eN (rOp pDiv (rVar 3) (rVar 1)))) (sRet (eN (rOp pMod (rCl pInt (raCons (rVar 3) (raNil))) (rVar 1)))))) (sNil)) (sSeq (sAsg (eC (.int 0)) (tgN 2)) (sSeq (sIf (bE (eN (rOp pLt (rOp pIx (rVar 0) (rC (.int 1))) (rCl pLen (raCons (rOp pIx (rVar 0) (rC (.int 0))) (raNil)))))) (sSeq (sAsg (eR (rOp pIx (rOp pIx (rVar 0) (rC (.int 0))) (rOp pIx (rVar 0) (rC (.int 1))))) (tgN 4)) (sAsg (eN (rOp pAdd (rOp pMul (rC (.int 2)) (rCl pAbs (raCons (rVar 4) (raNil)))) (rCl pInt (raCons (rOp pLt (rVar 4) (rC (.int 0))) (raNil))))) (tgN 2))) (sNil)) (sSeq (sAugIx 0 (rC (.int 1)) pIxL (eC (.int 1)) pAddI pSetL) (sSeq (sIf (bE (eN (rOp pGe (rVar 2) (rOp pMul (rC (.int 2)) (rOp pPow (rC (.int 10)) (rC (.int 18))))))) (sSeq (sAsg (eN (rOp pMod (rCl pInt (raCons (rOp pDiv (rVar 2) (rC (.int 2))) (raNil))) (rOp pShl (rC (.int 1)) (rC (.int 6000))))) (tgN 3)) (sSeq (sSetIx 0 (rC (.int 2)) pSetL (eN (rOp pDiv (rVar 3) (rVar 1)))) (sRet (eN (rOp pMod (rCl pInt (raCons (rVar 3) (raNil))) (rVar 1)))))) (sNil)) (sSeq (sSetIx 0 (rC (.int 3)) pSetL (eN (rOp pMod (rCl pInt (raCons (rOp pAdd (rOp pAdd (rOp pAdd (rOp pMul (rOp pIx (rVar 0) (rC (.int 3))) (rC (.int 48271))) (rOp pMul (rOp pMod (rCl pInt (raCons (rVar 2) (raNil))) (rC (.int 2147483629))) (rC (.int 16807)))) (rOp pMul (rOp pIx (rVar 0) (rC (.int 1))) (rC (.int 69621)))) (rC (.int 11))) (raNil))) (rC (.int 2147483647))))) (sRet (eN (rOp pMod (rCl pInt (raCons (rOp pDiv (rOp pIx (rVar 0) (rC (.int 3))) (rC (.int 16))) (raNil))) (rVar 1)))))))))
def m__law_draw : FM := fnM 2 5 [] b_m__law_draw
def b_m__law_pick : SM := sRet (eOp (fun x y => immO (pIx x y)) (gRef 1) (gOwn (eCall m__law_draw (aCons (gRef 0) (aCons (gOwn (eN (rCl pLen (raCons (rVar 1) (raNil))))) (aNil))))))
def m__law_pick : FM := fnM 2 2 [] b_m__law_pick
def b_m__law_is_int : SM := sRet (eAnd (eN (rCl pIsi (raCons (rVar 0) (raCons (rC (.ty "int")) (raNil))))) (eNot (eN (rCl pIsi (raCons (rVar 0) (raCons (rC (.ty "bool")) (raNil)))))))
def m__law_is_int : FM := fnM 1 1 [] b_m__law_is_int
def b_m__law_same (n : Nat) (self : FM) : SM := sSeq (sIf (bE (eN (rCl pIsi (raCons (rVar 0) (raCons (rC (.ty "tuple")) (raNil)))))) (sSeq (sIf (bOr (bNot (bE (eN (rCl pIsi (raCons (rVar 1) (raCons (rC (.ty "tuple")) (raNil))))))) (bE (eN (rOp pNe (rCl pLen (raCons (rVar 0) (raNil))) (rCl pLen (raCons (rVar 1) (raNil))))))) (sRet (eC (.bl false))) (sNil)) (sRet (eOp pEq (gOwn (eCl pLen (aCons (gOwn (eLC (itR1 (aCons (gOwn (eN (rCl pLen (raCons (rVar 0) (raNil))))) (aNil))) [2] (tgN 2) (bNot (bE (eCall self (aCons (gOwn (eR (rOp pIx (rVar 0) (rVar 2)))) (aCons (gOwn (eR (rOp pIx (rVar 1) (rVar 2)))) (aNil)))))) (eVar 2))) (aNil)))) (gOwn (eC (.int 0)))))) (sNil)) (sSeq (sIf (bOr (bE (eN (rCl pIsi (raCons (rVar 0) (raCons (rC (.ty "bool")) (raNil)))))) (bOr (bE (eN (rOp pIsN (rVar 0) (rC .non)))) (bE (eN (rCl pIsi (raCons (rVar 0) (raCons (rC (.ty "str")) (raNil)))))))) (sRet (eAnd (eN (rOp pEq (rCl pIsi (raCons (rVar 0) (raCons (rC (.ty "bool")) (raNil)))) (rCl pIsi (raCons (rVar 1) (raCons (rC (.ty "bool")) (raNil)))))) (eN (rOp pEq (rVar 0) (rVar 1))))) (sNil)) (sRet (eAnd (eCall m__law_is_int (aCons (gRef 0) (aNil))) (eAnd (eCall m__law_is_int (aCons (gRef 1) (aNil))) (eN (rOp pEq (rVar 0) (rVar 1)))))))
def m__law_same : Nat → FM
  | 0 => fBad
  | n + 1 => fnM 2 3 [] (b_m__law_same n (m__law_same n))
def b_m__law_rare : SM := sRet (eOp pEq (gOwn (eCall m__law_draw (aCons (gRef 0) (aCons (gRef 1) (aNil))))) (gOwn (eN (rOp pDiv (rVar 1) (rC (.int 2))))))
def m__law_rare : FM := fnM 2 2 [] b_m__law_rare
/-! ### the pure functions -/
def b_m__law_kinds : SM := sSeq (sAsg (eC (.str "mark num size count gap ")) (tgN 1)) (sSeq (sIf (bE (eN (rOp pGt (rVar 0) (rC (.int 0))))) (sAsg (eN (rOp pAdd (rVar 1) (rC (.str "part maybe many grow since nest ")))) (tgN 1)) (sNil)) (sSeq (sIf (bE (eN (rOp pGt (rVar 0) (rC (.int 1))))) (sAsg (eN (rOp pAdd (rVar 1) (rC (.str "pick ")))) (tgN 1)) (sNil)) (sRet (eSM1 pSplit (eN (rOp pAdd (rVar 1) (rC (.str "sum roll pad free rest inner")))) (gOwn (eC (.str " ")))))))
def m__law_kinds : FM := fnM 1 2 [] b_m__law_kinds
def b_m__law_figure : SM := sSeq (sAsg (eCall m__law_draw (aCons (gRef 0) (aCons (gOwn (eC (.int 4))) (aNil)))) (tgN 1)) (sSeq (sIf (bE (eN (rOp pEq (rVar 1) (rC (.int 0))))) (sRet (eCall m__law_draw (aCons (gRef 0) (aCons (gOwn (eC (.int 10000))) (aNil))))) (sNil)) (sSeq (sIf (bE (eN (rOp pEq (rVar 1) (rC (.int 1))))) (sRet (eCall m__law_pick (aCons (gRef 0) (aCons (gOwn (eLst (aCons (gOwn (eC (.int 1))) (aCons (gOwn (eC (.int 9))) (aCons (gOwn (eC (.int 10))) (aCons (gOwn (eC (.int 99))) (aCons (gOwn (eC (.int 0))) (aCons (gOwn (eC (.int 100))) (aCons (gOwn (eC (.int 999))) (aCons (gOwn (eC (.int 1000))) (aCons (gOwn (eC (.int 9999))) (aNil)))))))))))) (aNil))))) (sNil)) (sRet (eCall m__law_draw (aCons (gRef 0) (aCons (gOwn (eC (.int 10))) (aNil)))))))
def m__law_figure : FM := fnM 1 2 [] b_m__law_figure
def b_m__law_words : SM := sSeq (sAsg (eC (.str "format base version mark num in size count gap sum roll over by of to pad free rest part maybe many ")) (tgN 0)) (sRet (eSM1 pSplit (eN (rOp pAdd (rVar 0) (rC (.str "pick case grow since nest inner")))) (gOwn (eC (.str " ")))))
def m__law_words : FM := fnM 0 1 [] b_m__law_words
def b_m__law_plain_words : SM := sSeq (sAsg (eC (.str "never end any cell keep tell fork jump round check within put bump up down add less turn seen none plain ")) (tgN 0)) (sSeq (sAsg (eN (rOp pAdd (rVar 0) (rC (.str "sheet watcher least one two body files kind inside turns new value cells file name tree item block ")))) (tgN 0)) (sSeq (sAsg (eN (rOp pAdd (rVar 0) (rC (.str "text length then else if while for do let set get at from is not and or as with all each repeat ")))) (tgN 0)) (sRet (eSM1 pSplit (eN (rOp pAdd (rVar 0) (rC (.str "times bytes word char list map header data flags crc big n s c p0 k0 c0")))) (gOwn (eC (.str " ")))))))
def m__law_plain_words : FM := fnM 0 1 [] b_m__law_plain_words
def b_m__law_name : SM := sSeq (sAsg (eC (.str "abcdefghijklmnopqrstuvwxyz")) (tgN 1)) (sSeq (sAsg (eN (rOp pAdd (rVar 1) (rC (.str "0123456789")))) (tgN 2)) (sSeq (sAsg (eCall m__law_draw (aCons (gRef 0) (aCons (gOwn (eC (.int 7))) (aNil)))) (tgN 3)) (sSeq (sAsg (eOp (fun x y => immO (pIx x y)) (gRef 1) (gOwn (eCall m__law_draw (aCons (gRef 0) (aCons (gOwn (eC (.int 26))) (aNil)))))) (tgN 4)) (sSeq (sIf (bE (eN (rOp pEq (rVar 3) (rC (.int 2))))) (sAsg (eOp pAdd (gOwn (eCall m__law_pick (aCons (gRef 0) (aCons (gOwn (eCall m__law_words aNil)) (aNil))))) (gOwn (eOp (fun x y => immO (pIx x y)) (gRef 2) (gOwn (eCall m__law_draw (aCons (gRef 0) (aCons (gOwn (eC (.int 36))) (aNil)))))))) (tgN 4)) (sIf (bE (eN (rOp pEq (rVar 3) (rC (.int 3))))) (sAsg (eSl pSl (gOwn (eCall m__law_pick (aCons (gRef 0) (aCons (gOwn (eCall m__law_words aNil)) (aNil))))) (oNone) (oSome (eN (rUn pNeg (rC (.int 1)))))) (tgN 4)) (sIf (bE (eN (rOp pEq (rVar 3) (rC (.int 4))))) (sAsg (eCall m__law_pick (aCons (gRef 0) (aCons (gOwn (eCall m__law_plain_words aNil)) (aNil)))) (tgN 4)) (sIf (bE (eN (rOp pGt (rVar 3) (rC (.int 4))))) (sFor (itR1 (aCons (gOwn (eCall m__law_draw (aCons (gRef 0) (aCons (gOwn (eC (.int 8))) (aNil))))) (aNil))) (tgN 5) (sAsg (eOp pAdd (gRef 4) (gOwn (eOp (fun x y => immO (pIx x y)) (gRef 2) (gOwn (eCall m__law_draw (aCons (gRef 0) (aCons (gOwn (eC (.int 36))) (aNil)))))))) (tgN 4))) (sNil))))) (sSeq (sIf (bE (eOp pIn (gRef 4) (gOwn (eCall m__law_words aNil)))) (sAsg (eN (rOp pAdd (rVar 4) (rC (.str "0")))) (tgN 4)) (sNil)) (sRet (eVar 4)))))))
def m__law_name : FM := fnM 1 6 [] b_m__law_name
def b_m__law_pop : SM := sRet (eMeth "list" 1 pPopAt (aCons (gOwn (eCall m__law_draw (aCons (gRef 0) (aCons (gOwn (eN (rCl pLen (raCons (rVar 1) (raNil))))) (aNil))))) (aNil)))
def m__law_pop : FM := fnM 2 2 [] b_m__law_pop
def b_m__law_short : SM := sSeq (sIf (bE (eN (rOp pEq (rVar 1) (rC (.str "mark"))))) (sRet (eTup (aCons (gOwn (eVar 1)) (aCons (gOwn (eCl pTuple (aCons (gOwn (eLC (itR1 (aCons (gOwn (eCall m__law_pick (aCons (gRef 0) (aCons (gOwn (eLst (aCons (gOwn (eC (.int 1))) (aCons (gOwn (eC (.int 1))) (aCons (gOwn (eC (.int 2))) (aCons (gOwn (eC (.int 3))) (aCons (gOwn (eC (.int 12))) (aCons (gOwn (eC (.int 2))) (aNil))))))))) (aNil))))) (aNil))) [4] (tgN 4) (bYes) (eCall m__law_figure (aCons (gRef 0) (aNil))))) (aNil)))) (aNil))))) (sNil)) (sSeq (sAsg (eCall m__law_name (aCons (gRef 0) (aNil))) (tgN 2)) (sSeq (sIf (bE (eN (rOp pEq (rVar 1) (rC (.str "rest"))))) (sRet (eTup (aCons (gOwn (eVar 1)) (aCons (gOwn (eVar 2)) (aNil))))) (sNil)) (sSeq (sIf (bE (eN (rOp pEq (rVar 1) (rC (.str "inner"))))) (sRet (eTup (aCons (gOwn (eVar 1)) (aCons (gOwn (eVar 2)) (aCons (gOwn (eCall m__law_name (aCons (gRef 0) (aNil)))) (aNil)))))) (sNil)) (sSeq (sAsg (eCall m__law_figure (aCons (gRef 0) (aNil))) (tgN 3)) (sSeq (sIf (bE (eOp pIn (gRef 1) (gOwn (eTup (aCons (gOwn (eC (.str "size"))) (aCons (gOwn (eC (.str "count"))) (aCons (gOwn (eC (.str "gap"))) (aNil)))))))) (sRet (eTup (aCons (gOwn (eVar 1)) (aCons (gOwn (eVar 2)) (aCons (gOwn (eVar 3)) (aCons (gOwn (eCall m__law_name (aCons (gRef 0) (aNil)))) (aNil))))))) (sNil)) (sSeq (sIf (bE (eN (rOp pEq (rVar 1) (rC (.str "sum"))))) (sRet (eTup (aCons (gOwn (eVar 1)) (aCons (gOwn (eVar 2)) (aCons (gOwn (eVar 3)) (aCons (gOwn (eCall m__law_name (aCons (gRef 0) (aNil)))) (aCons (gOwn (eCall m__law_name (aCons (gRef 0) (aNil)))) (aNil)))))))) (sNil)) (sSeq (sIf (bE (eN (rOp pEq (rVar 1) (rC (.str "roll"))))) (sRet (eTup (aCons (gOwn (eVar 1)) (aCons (gOwn (eVar 2)) (aCons (gOwn (eVar 3)) (aCons (gOwn (eCall m__law_figure (aCons (gRef 0) (aNil)))) (aCons (gOwn (eCall m__law_name (aCons (gRef 0) (aNil)))) (aCons (gOwn (eCall m__law_name (aCons (gRef 0) (aNil)))) (aNil))))))))) (sNil)) (sSeq (sIf (bAnd (bE (eN (rOp pEq (rVar 1) (rC (.str "num"))))) (bE (eOp pEq (gOwn (eCall m__law_draw (aCons (gRef 0) (aCons (gOwn (eC (.int 2))) (aNil))))) (gOwn (eC (.int 0)))))) (sRet (eTup (aCons (gOwn (eVar 1)) (aCons (gOwn (eVar 2)) (aCons (gOwn (eVar 3)) (aCons (gOwn (eC .non)) (aNil))))))) (sNil)) (sSeq (sIf (bE (eN (rOp pEq (rVar 1) (rC (.str "num"))))) (sRet (eTup (aCons (gOwn (eVar 1)) (aCons (gOwn (eVar 2)) (aCons (gOwn (eVar 3)) (aCons (gOwn (eTup (aCons (gOwn (eCall m__law_figure (aCons (gRef 0) (aNil)))) (aCons (gOwn (eCall m__law_figure (aCons (gRef 0) (aNil)))) (aNil))))) (aNil))))))) (sNil)) (sRet (eTup (aCons (gOwn (eVar 1)) (aCons (gOwn (eVar 2)) (aCons (gOwn (eVar 3)) (aNil)))))))))))))))
def m__law_short : FM := fnM 2 5 [] b_m__law_short
def b_m__law_item (r__law_item r__law_holder r__law_inside : FM) : SM := sSeq (sAugIx 3 (rC (.int 0)) pIxL (eC (.int 16)) pSub pSetL) (sSeq (sIf (bE (eOp pIn (gRef 1) (gOwn (eTup (aCons (gOwn (eC (.str "part"))) (aCons (gOwn (eC (.str "maybe"))) (aCons (gOwn (eC (.str "many"))) (aCons (gOwn (eC (.str "grow"))) (aCons (gOwn (eC (.str "since"))) (aCons (gOwn (eC (.str "nest"))) (aCons (gOwn (eC (.str "pick"))) (aNil)))))))))))) (sRet (eCall r__law_holder (aCons (gRef 0) (aCons (gRef 1) (aCons (gRef 2) (aCons (gRef 3) (aNil))))))) (sNil)) (sRet (eCall m__law_short (aCons (gRef 0) (aCons (gRef 1) (aNil))))))
def b_m__law_holder (r__law_item r__law_holder r__law_inside : FM) : SM := sSeq (sIf (bE (eN (rOp pEq (rVar 1) (rC (.str "since"))))) (sRet (eTup (aCons (gOwn (eVar 1)) (aCons (gOwn (eCall m__law_figure (aCons (gRef 0) (aNil)))) (aCons (gOwn (eCall r__law_inside (aCons (gRef 0) (aCons (gOwn (eN (rOp pSub (rVar 2) (rC (.int 1))))) (aCons (gRef 3) (aNil)))))) (aNil)))))) (sNil)) (sSeq (sAsg (eCall m__law_name (aCons (gRef 0) (aNil))) (tgN 4)) (sSeq (sIf (bE (eN (rOp pEq (rVar 1) (rC (.str "pick"))))) (sSeq (sAsg (eLst (aNil)) (tgN 5)) (sSeq (sFor (itR1 (aCons (gOwn (eOp pAdd (gOwn (eC (.int 1))) (gOwn (eCall m__law_draw (aCons (gRef 0) (aCons (gOwn (eC (.int 3))) (aNil))))))) (aNil))) (tgN 6) (sSeq (sAsg (eCall m__law_name (aCons (gRef 0) (aNil))) (tgN 8)) (sExpr (eMeth "list" 5 pAppend (aCons (gOwn (eTup (aCons (gOwn (eVar 8)) (aCons (gOwn (eCall r__law_inside (aCons (gRef 0) (aCons (gOwn (eN (rOp pSub (rVar 2) (rC (.int 2))))) (aCons (gRef 3) (aNil)))))) (aNil))))) (aNil)))))) (sRet (eTup (aCons (gOwn (eVar 1)) (aCons (gOwn (eVar 4)) (aCons (gOwn (eN (rCl pTuple (raCons (rVar 5) (raNil))))) (aNil)))))))) (sNil)) (sSeq (sIf (bE (eOp pIn (gRef 1) (gOwn (eTup (aCons (gOwn (eC (.str "grow"))) (aCons (gOwn (eC (.str "nest"))) (aNil))))))) (sSeq (sAsg (eCall m__law_figure (aCons (gRef 0) (aNil))) (tgN 7)) (sRet (eTup (aCons (gOwn (eVar 1)) (aCons (gOwn (eVar 4)) (aCons (gOwn (eVar 7)) (aCons (gOwn (eCall r__law_inside (aCons (gRef 0) (aCons (gOwn (eN (rOp pSub (rVar 2) (rC (.int 1))))) (aCons (gRef 3) (aNil)))))) (aNil)))))))) (sNil)) (sRet (eTup (aCons (gOwn (eVar 1)) (aCons (gOwn (eVar 4)) (aCons (gOwn (eCall r__law_inside (aCons (gRef 0) (aCons (gOwn (eN (rOp pSub (rVar 2) (rC (.int 1))))) (aCons (gRef 3) (aNil)))))) (aNil)))))))))
def b_m__law_inside (r__law_item r__law_holder r__law_inside : FM) : SM := sSeq (sAsg (eLst (aNil)) (tgN 3)) (sSeq (sFor (itR1 (aCons (gOwn (eCall m__law_draw (aCons (gRef 0) (aCons (gOwn (eC (.int 4))) (aNil))))) (aNil))) (tgN 4) (sIf (bE (eN (rOp pGe (rOp pIx (rVar 2) (rC (.int 0))) (rC (.int 16))))) (sExpr (eMeth "list" 3 pAppend (aCons (gOwn (eCall r__law_item (aCons (gRef 0) (aCons (gOwn (eCall m__law_pick (aCons (gRef 0) (aCons (gOwn (eCall m__law_kinds (aCons (gRef 1) (aNil)))) (aNil))))) (aCons (gRef 1) (aCons (gRef 2) (aNil))))))) (aNil)))) (sNil))) (sRet (eN (rCl pTuple (raCons (rVar 3) (raNil))))))
mutual
def m__law_item : Nat → FM
  | 0 => fBad
  | n + 1 => fnM 4 4 [] (b_m__law_item (m__law_item n) (m__law_holder n) (m__law_inside n))
def m__law_holder : Nat → FM
  | 0 => fBad
  | n + 1 => fnM 4 9 [] (b_m__law_holder (m__law_item n) (m__law_holder n) (m__law_inside n))
def m__law_inside : Nat → FM
  | 0 => fBad
  | n + 1 => fnM 3 5 [] (b_m__law_inside (m__law_item n) (m__law_holder n) (m__law_inside n))
end
def b_m__law_any_tree : SM := sSeq (sAsg (eLst (aCons (gOwn (eVar 1)) (aNil))) (tgN 2)) (sSeq (sAsg (eCall m__law_pick (aCons (gRef 0) (aCons (gOwn (eLst (aCons (gOwn (eC (.int 2))) (aCons (gOwn (eC (.int 4))) (aCons (gOwn (eC (.int 11))) (aCons (gOwn (eC (.int 3))) (aNil))))))) (aNil)))) (tgN 3)) (sSeq (sAsg (eCall m__law_kinds (aCons (gOwn (eC (.int 2))) (aNil))) (tgN 4)) (sSeq (sIf (bE (eOp pEq (gOwn (eCall m__law_draw (aCons (gRef 0) (aCons (gOwn (eC (.int 2))) (aNil))))) (gOwn (eC (.int 0))))) (sAsg (eLC (itR1 (aCons (gOwn (eN (rCl pLen (raCons (rVar 4) (raNil))))) (aNil))) [8] (tgN 8) (bYes) (eCall m__law_pop (aCons (gRef 0) (aCons (gRef 4) (aNil))))) (tgN 4)) (sAsg (eLC (itR1 (aCons (gOwn (eCall m__law_draw (aCons (gRef 0) (aCons (gOwn (eC (.int 8))) (aNil))))) (aNil))) [8] (tgN 8) (bYes) (eCall m__law_pick (aCons (gRef 0) (aCons (gRef 4) (aNil))))) (tgN 4))) (sSeq (sAsg (eLst (aNil)) (tgN 5)) (sSeq (sForVS 4 (tgN 6) (sIf (bE (eN (rOp pGe (rOp pIx (rVar 2) (rC (.int 0))) (rC (.int 16))))) (sExpr (eMeth "list" 5 pAppend (aCons (gOwn (eCall (m__law_item 40) (aCons (gRef 0) (aCons (gRef 6) (aCons (gRef 3) (aCons (gRef 2) (aNil))))))) (aNil)))) (sNil))) (sSeq (sAsg (eC (.int 1)) (tgN 7)) (sSeq (sIf (bE (eOp pEq (gOwn (eCall m__law_draw (aCons (gRef 0) (aCons (gOwn (eC (.int 2))) (aNil))))) (gOwn (eC (.int 0))))) (sAsg (eCall m__law_figure (aCons (gRef 0) (aNil))) (tgN 7)) (sNil)) (sRet (eTup (aCons (gOwn (eC (.str "format"))) (aCons (gOwn (eCall m__law_name (aCons (gRef 0) (aNil)))) (aCons (gOwn (eCall m__law_figure (aCons (gRef 0) (aNil)))) (aCons (gOwn (eVar 7)) (aCons (gOwn (eN (rCl pTuple (raCons (rVar 5) (raNil))))) (aNil)))))))))))))))
def m__law_any_tree : FM := fnM 2 9 [] b_m__law_any_tree
def b_m__law_tokens (n : Nat) (self : FM) : SM := sSeq (sAsg (eLst (aCons (gOwn (eC (.str "{"))) (aNil))) (tgN 1)) (sSeq (sForVS 0 (tgN 2) (sSeq (sAsg (eR (rOp pIx (rVar 2) (rC (.int 0)))) (tgN 3)) (sSeq (sExpr (eMeth "list" 1 pAppend (aCons (gOwn (eVar 3)) (aNil)))) (sSeq (sIf (bE (eN (rOp pEq (rVar 3) (rC (.str "mark"))))) (sExpr (eMethB "list" 1 pExtend (aCons (gOwn (eLC (itS (eR (rOp pIx (rVar 2) (rC (.int 1))))) [5] (tgN 5) (bYes) (eN (rCl pStr (raCons (rVar 5) (raNil)))))) (aNil)))) (sIf (bE (eN (rOp pEq (rVar 3) (rC (.str "pick"))))) (sSeq (sExpr (eMethB "list" 1 pExtend (aCons (gOwn (eLst (aCons (gOwn (eR (rOp pIx (rVar 2) (rC (.int 1))))) (aCons (gOwn (eC (.str "{"))) (aNil))))) (aNil)))) (sSeq (sFor (itS (eR (rOp pIx (rVar 2) (rC (.int 2))))) (tgN 4) (sSeq (sExpr (eMethB "list" 1 pExtend (aCons (gOwn (eLst (aCons (gOwn (eC (.str "case"))) (aCons (gOwn (eR (rOp pIx (rVar 4) (rC (.int 0))))) (aNil))))) (aNil)))) (sExpr (eMethB "list" 1 pExtend (aCons (gOwn (eCall self (aCons (gOwn (eR (rOp pIx (rVar 4) (rC (.int 1))))) (aNil)))) (aNil)))))) (sExpr (eMeth "list" 1 pAppend (aCons (gOwn (eC (.str "}"))) (aNil)))))) (sIf (bE (eOp pIn (gRef 3) (gOwn (eTup (aCons (gOwn (eC (.str "part"))) (aCons (gOwn (eC (.str "maybe"))) (aCons (gOwn (eC (.str "many"))) (aCons (gOwn (eC (.str "grow"))) (aCons (gOwn (eC (.str "nest"))) (aCons (gOwn (eC (.str "since"))) (aNil))))))))))) (sSeq (sExpr (eMethB "list" 1 pExtend (aCons (gOwn (eLC (itS (eSl pSl (gRef 2) (oSome (eC (.int 1))) (oSome (eN (rUn pNeg (rC (.int 1))))))) [6] (tgN 6) (bYes) (eN (rCl pStr (raCons (rVar 6) (raNil)))))) (aNil)))) (sExpr (eMethB "list" 1 pExtend (aCons (gOwn (eCall self (aCons (gOwn (eR (rOp pIx (rVar 2) (rUn pNeg (rC (.int 1)))))) (aNil)))) (aNil))))) (sSeq (sExpr (eMethB "list" 1 pExtend (aCons (gOwn (eLC (itS (eSl pSl (gRef 2) (oSome (eC (.int 1))) (oSome (eC (.int 3))))) [6] (tgN 6) (bYes) (eN (rCl pStr (raCons (rVar 6) (raNil)))))) (aNil)))) (sIf (bAnd (bE (eN (rOp pEq (rVar 3) (rC (.str "num"))))) (bE (eN (rOp pNotN (rOp pIx (rVar 2) (rC (.int 3))) (rC .non))))) (sExpr (eMethB "list" 1 pExtend (aCons (gOwn (eLst (aCons (gOwn (eC (.str "in"))) (aCons (gOwn (eN (rCl pStr (raCons (rOp pIx (rOp pIx (rVar 2) (rC (.int 3))) (rC (.int 0))) (raNil))))) (aCons (gOwn (eC (.str ".."))) (aCons (gOwn (eN (rCl pStr (raCons (rOp pIx (rOp pIx (rVar 2) (rC (.int 3))) (rC (.int 1))) (raNil))))) (aNil))))))) (aNil)))) (sIf (bE (eOp pIn (gRef 3) (gOwn (eTup (aCons (gOwn (eC (.str "size"))) (aCons (gOwn (eC (.str "count"))) (aNil))))))) (sExpr (eMethB "list" 1 pExtend (aCons (gOwn (eLst (aCons (gOwn (eC (.str "of"))) (aCons (gOwn (eR (rOp pIx (rVar 2) (rC (.int 3))))) (aNil))))) (aNil)))) (sIf (bE (eN (rOp pEq (rVar 3) (rC (.str "gap"))))) (sExpr (eMethB "list" 1 pExtend (aCons (gOwn (eLst (aCons (gOwn (eC (.str "to"))) (aCons (gOwn (eR (rOp pIx (rVar 2) (rC (.int 3))))) (aNil))))) (aNil)))) (sIf (bE (eN (rOp pEq (rVar 3) (rC (.str "inner"))))) (sAsg (eOp pAdd (gOwn (eSl pSl (gRef 1) (oNone) (oSome (eN (rUn pNeg (rC (.int 1))))))) (gOwn (eLst (aCons (gOwn (eC (.str "of"))) (aCons (gOwn (eR (rOp pIx (rVar 2) (rC (.int 2))))) (aNil)))))) (tgN 1)) (sIf (bE (eN (rOp pEq (rVar 3) (rC (.str "sum"))))) (sExpr (eMethB "list" 1 pExtend (aCons (gOwn (eLst (aCons (gOwn (eC (.str "over"))) (aCons (gOwn (eR (rOp pIx (rVar 2) (rC (.int 3))))) (aCons (gOwn (eC (.str ".."))) (aCons (gOwn (eR (rOp pIx (rVar 2) (rC (.int 4))))) (aNil))))))) (aNil)))) (sIf (bE (eN (rOp pEq (rVar 3) (rC (.str "roll"))))) (sExpr (eMethB "list" 1 pExtend (aCons (gOwn (eLst (aCons (gOwn (eC (.str "by"))) (aCons (gOwn (eN (rCl pStr (raCons (rOp pIx (rVar 2) (rC (.int 3))) (raNil))))) (aCons (gOwn (eC (.str "over"))) (aCons (gOwn (eR (rOp pIx (rVar 2) (rC (.int 4))))) (aCons (gOwn (eC (.str ".."))) (aCons (gOwn (eR (rOp pIx (rVar 2) (rC (.int 5))))) (aNil))))))))) (aNil)))) (sNil))))))))))) (sIf (bE (eOp pNotIn (gRef 3) (gOwn (eTup (aCons (gOwn (eC (.str "pick"))) (aCons (gOwn (eC (.str "part"))) (aCons (gOwn (eC (.str "maybe"))) (aCons (gOwn (eC (.str "many"))) (aCons (gOwn (eC (.str "grow"))) (aCons (gOwn (eC (.str "nest"))) (aCons (gOwn (eC (.str "since"))) (aNil)))))))))))) (sExpr (eMeth "list" 1 pAppend (aCons (gOwn (eC (.str ";"))) (aNil)))) (sNil)))))) (sSeq (sExpr (eMeth "list" 1 pAppend (aCons (gOwn (eC (.str "}"))) (aNil)))) (sRet (eVar 1))))
def m__law_tokens : Nat → FM
  | 0 => fBad
  | n + 1 => fnM 1 7 [] (b_m__law_tokens n (m__law_tokens n))
def b_m__law_all_tokens : SM := sSeq (sAsg (eLst (aCons (gOwn (eC (.str "format"))) (aCons (gOwn (eR (rOp pIx (rVar 0) (rC (.int 1))))) (aCons (gOwn (eC (.str "base"))) (aCons (gOwn (eN (rCl pStr (raCons (rOp pIx (rVar 0) (rC (.int 2))) (raNil))))) (aNil)))))) (tgN 1)) (sSeq (sIf (bE (eN (rOp pNe (rOp pIx (rVar 0) (rC (.int 3))) (rC (.int 1))))) (sExpr (eMethB "list" 1 pExtend (aCons (gOwn (eLst (aCons (gOwn (eC (.str "version"))) (aCons (gOwn (eN (rCl pStr (raCons (rOp pIx (rVar 0) (rC (.int 3))) (raNil))))) (aNil))))) (aNil)))) (sNil)) (sRet (eOp pAdd (gRef 1) (gOwn (eCall (m__law_tokens 20) (aCons (gOwn (eR (rOp pIx (rVar 0) (rC (.int 4))))) (aNil)))))))
def m__law_all_tokens : FM := fnM 1 2 [] b_m__law_all_tokens
def b_m__law_filled : SM := sSeq (sAsg (eOp pSub (gOwn (eC (.int 1998))) (gOwn (eCl pLen (aCons (gOwn (eCall m__law_all_tokens (aCons (gRef 1) (aNil)))) (aNil))))) (tgN 2)) (sSeq (sAsg (eCall m__law_draw (aCons (gRef 0) (aCons (gOwn (eC (.int 3))) (aNil)))) (tgN 3)) (sSeq (sAsg (eCall m__law_figure (aCons (gRef 0) (aNil))) (tgN 4)) (sSeq (sIf (bE (eN (rOp pEq (rVar 3) (rC (.int 0))))) (sAsg (eCl pTuple (aCons (gOwn (eLC (itR1 (aCons (gOwn (eN (rOp pDiv (rVar 2) (rC (.int 3))))) (aNil))) [6] (tgN 6) (bYes) (eTup (aCons (gOwn (eC (.str "rest"))) (aCons (gOwn (eN (rOp pAdd (rC (.str "r")) (rCl pStr (raCons (rVar 6) (raNil)))))) (aNil)))))) (aNil))) (tgN 5)) (sIf (bE (eN (rOp pEq (rVar 3) (rC (.int 1))))) (sAsg (eTup (aCons (gOwn (eTup (aCons (gOwn (eC (.str "pick"))) (aCons (gOwn (eCall m__law_name (aCons (gRef 0) (aNil)))) (aCons (gOwn (eCl pTuple (aCons (gOwn (eLC (itR1 (aCons (gOwn (eN (rOp pDiv (rOp pSub (rVar 2) (rC (.int 4))) (rC (.int 4))))) (aNil))) [6] (tgN 6) (bYes) (eTup (aCons (gOwn (eN (rOp pAdd (rC (.str "c")) (rCl pStr (raCons (rVar 6) (raNil)))))) (aCons (gOwn (eTup (aNil))) (aNil)))))) (aNil)))) (aNil)))))) (aNil))) (tgN 5)) (sAsg (eTup (aCons (gOwn (eTup (aCons (gOwn (eC (.str "mark"))) (aCons (gOwn (eCl pTuple (aCons (gOwn (eLC (itR1 (aCons (gOwn (eN (rOp pSub (rVar 2) (rC (.int 2))))) (aNil))) [6] (tgN 6) (bYes) (eN (rOp pMod (rCl pInt (raCons (rOp pAdd (rVar 4) (rOp pMul (rC (.int 37)) (rVar 6))) (raNil))) (rC (.int 10000)))))) (aNil)))) (aNil))))) (aNil))) (tgN 5)))) (sRet (eOp pAdd (gOwn (eSl pSl (gRef 1) (oNone) (oSome (eC (.int 4))))) (gOwn (eTup (aCons (gOwn (eN (rOp pAdd (rOp pIx (rVar 1) (rC (.int 4))) (rVar 5)))) (aNil)))))))))
def m__law_filled : FM := fnM 2 7 [] b_m__law_filled
def b_m_add_short : SM := sSeq (sAsg (eR (rOp pIx (rVar 1) (rC (.int 0)))) (tgN 2)) (sSeq (sExpr (eMeth "list" 0 pAppend (aCons (gOwn (eVar 2)) (aNil)))) (sSeq (sIf (bE (eN (rOp pEq (rVar 2) (rC (.str "mark"))))) (sSeq (sFor (itS (eR (rOp pIx (rVar 1) (rC (.int 1))))) (tgN 3) (sExpr (eMeth "list" 0 pAppend (aCons (gOwn (eN (rCl pStr (raCons (rVar 3) (raNil))))) (aNil))))) (sRetN)) (sNil)) (sSeq (sExpr (eMeth "list" 0 pAppend (aCons (gOwn (eR (rOp pIx (rVar 1) (rC (.int 1))))) (aNil)))) (sSeq (sIf (bE (eN (rOp pEq (rVar 2) (rC (.str "inner"))))) (sExpr (eMethB "list" 0 pExtend (aCons (gOwn (eLst (aCons (gOwn (eC (.str "of"))) (aCons (gOwn (eR (rOp pIx (rVar 1) (rC (.int 2))))) (aNil))))) (aNil)))) (sIf (bE (eN (rOp pNe (rVar 2) (rC (.str "rest"))))) (sExpr (eMeth "list" 0 pAppend (aCons (gOwn (eN (rCl pStr (raCons (rOp pIx (rVar 1) (rC (.int 2))) (raNil))))) (aNil)))) (sNil))) (sIf (bAnd (bE (eN (rOp pEq (rVar 2) (rC (.str "num"))))) (bE (eN (rOp pNotN (rOp pIx (rVar 1) (rC (.int 3))) (rC .non))))) (sExpr (eMethB "list" 0 pExtend (aCons (gOwn (eLst (aCons (gOwn (eC (.str "in"))) (aCons (gOwn (eN (rCl pStr (raCons (rOp pIx (rOp pIx (rVar 1) (rC (.int 3))) (rC (.int 0))) (raNil))))) (aCons (gOwn (eC (.str ".."))) (aCons (gOwn (eN (rCl pStr (raCons (rOp pIx (rOp pIx (rVar 1) (rC (.int 3))) (rC (.int 1))) (raNil))))) (aNil))))))) (aNil)))) (sIf (bE (eOp pIn (gRef 2) (gOwn (eTup (aCons (gOwn (eC (.str "size"))) (aCons (gOwn (eC (.str "count"))) (aNil))))))) (sExpr (eMethB "list" 0 pExtend (aCons (gOwn (eLst (aCons (gOwn (eC (.str "of"))) (aCons (gOwn (eR (rOp pIx (rVar 1) (rC (.int 3))))) (aNil))))) (aNil)))) (sIf (bE (eN (rOp pEq (rVar 2) (rC (.str "gap"))))) (sExpr (eMethB "list" 0 pExtend (aCons (gOwn (eLst (aCons (gOwn (eC (.str "to"))) (aCons (gOwn (eR (rOp pIx (rVar 1) (rC (.int 3))))) (aNil))))) (aNil)))) (sIf (bE (eN (rOp pEq (rVar 2) (rC (.str "sum"))))) (sExpr (eMethB "list" 0 pExtend (aCons (gOwn (eLst (aCons (gOwn (eC (.str "over"))) (aCons (gOwn (eR (rOp pIx (rVar 1) (rC (.int 3))))) (aCons (gOwn (eC (.str ".."))) (aCons (gOwn (eR (rOp pIx (rVar 1) (rC (.int 4))))) (aNil))))))) (aNil)))) (sIf (bE (eN (rOp pEq (rVar 2) (rC (.str "roll"))))) (sExpr (eMethB "list" 0 pExtend (aCons (gOwn (eLst (aCons (gOwn (eC (.str "by"))) (aCons (gOwn (eN (rCl pStr (raCons (rOp pIx (rVar 1) (rC (.int 3))) (raNil))))) (aCons (gOwn (eC (.str "over"))) (aCons (gOwn (eR (rOp pIx (rVar 1) (rC (.int 4))))) (aCons (gOwn (eC (.str ".."))) (aCons (gOwn (eR (rOp pIx (rVar 1) (rC (.int 5))))) (aNil))))))))) (aNil)))) (sNil))))))))))
def m_add_short : FM := fnM 2 4 [] b_m_add_short
def b_m_add_block (r_add_block r_add_item r_add_holder : FM) : SM := sSeq (sExpr (eMeth "list" 0 pAppend (aCons (gOwn (eC (.str "{"))) (aNil)))) (sSeq (sForVS 1 (tgN 2) (sExpr (eCall r_add_item (aCons (gRef 0) (aCons (gRef 2) (aNil)))))) (sExpr (eMeth "list" 0 pAppend (aCons (gOwn (eC (.str "}"))) (aNil)))))
def b_m_add_item (r_add_block r_add_item r_add_holder : FM) : SM := sIf (bE (eOp pIn (gOwn (eR (rOp pIx (rVar 1) (rC (.int 0))))) (gOwn (eTup (aCons (gOwn (eC (.str "part"))) (aCons (gOwn (eC (.str "maybe"))) (aCons (gOwn (eC (.str "many"))) (aCons (gOwn (eC (.str "pick"))) (aCons (gOwn (eC (.str "grow"))) (aCons (gOwn (eC (.str "since"))) (aCons (gOwn (eC (.str "nest"))) (aNil)))))))))))) (sExpr (eCall r_add_holder (aCons (gRef 0) (aCons (gRef 1) (aNil))))) (sSeq (sExpr (eCall m_add_short (aCons (gRef 0) (aCons (gRef 1) (aNil))))) (sExpr (eMeth "list" 0 pAppend (aCons (gOwn (eC (.str ";"))) (aNil)))))
def b_m_add_holder (r_add_block r_add_item r_add_holder : FM) : SM := sSeq (sAsg (eR (rOp pIx (rVar 1) (rC (.int 0)))) (tgN 2)) (sSeq (sExpr (eMeth "list" 0 pAppend (aCons (gOwn (eVar 2)) (aNil)))) (sSeq (sIf (bE (eN (rOp pEq (rVar 2) (rC (.str "pick"))))) (sSeq (sExpr (eMethB "list" 0 pExtend (aCons (gOwn (eLst (aCons (gOwn (eR (rOp pIx (rVar 1) (rC (.int 1))))) (aCons (gOwn (eC (.str "{"))) (aNil))))) (aNil)))) (sSeq (sFor (itS (eR (rOp pIx (rVar 1) (rC (.int 2))))) (tgT 2 (tgsCons (tgN 4) (tgsCons (tgN 5) (tgsNil)))) (sSeq (sExpr (eMethB "list" 0 pExtend (aCons (gOwn (eLst (aCons (gOwn (eC (.str "case"))) (aCons (gOwn (eVar 4)) (aNil))))) (aNil)))) (sExpr (eCall r_add_block (aCons (gRef 0) (aCons (gRef 5) (aNil))))))) (sSeq (sExpr (eMeth "list" 0 pAppend (aCons (gOwn (eC (.str "}"))) (aNil)))) (sRetN)))) (sNil)) (sSeq (sFor (itS (eSl pSl (gRef 1) (oSome (eC (.int 1))) (oSome (eN (rUn pNeg (rC (.int 1))))))) (tgN 3) (sExpr (eMeth "list" 0 pAppend (aCons (gOwn (eN (rCl pStr (raCons (rVar 3) (raNil))))) (aNil))))) (sExpr (eCall r_add_block (aCons (gRef 0) (aCons (gOwn (eR (rOp pIx (rVar 1) (rUn pNeg (rC (.int 1)))))) (aNil))))))))
mutual
def m_add_block : Nat → FM
  | 0 => fBad
  | n + 1 => fnM 2 3 [] (b_m_add_block (m_add_block n) (m_add_item n) (m_add_holder n))
def m_add_item : Nat → FM
  | 0 => fBad
  | n + 1 => fnM 2 2 [] (b_m_add_item (m_add_block n) (m_add_item n) (m_add_holder n))
def m_add_holder : Nat → FM
  | 0 => fBad
  | n + 1 => fnM 2 6 [] (b_m_add_holder (m_add_block n) (m_add_item n) (m_add_holder n))
end
def b_m_write_format : SM := sSeq (sAsg (eLst (aCons (gOwn (eC (.str "format"))) (aCons (gOwn (eR (rOp pIx (rVar 0) (rC (.int 1))))) (aCons (gOwn (eC (.str "base"))) (aCons (gOwn (eN (rCl pStr (raCons (rOp pIx (rVar 0) (rC (.int 2))) (raNil))))) (aNil)))))) (tgN 1)) (sSeq (sIf (bE (eN (rOp pNe (rOp pIx (rVar 0) (rC (.int 3))) (rC (.int 1))))) (sExpr (eMethB "list" 1 pExtend (aCons (gOwn (eLst (aCons (gOwn (eC (.str "version"))) (aCons (gOwn (eN (rCl pStr (raCons (rOp pIx (rVar 0) (rC (.int 3))) (raNil))))) (aNil))))) (aNil)))) (sNil)) (sSeq (sExpr (eCall (m_add_block 50) (aCons (gRef 1) (aCons (gOwn (eR (rOp pIx (rVar 0) (rC (.int 4))))) (aNil))))) (sSeq (sAsg (eLst (aNil)) (tgN 2)) (sSeq (sForVS 1 (tgN 3) (sSeq (sExpr (eMeth "list" 2 pAppend (aCons (gOwn (eVar 3)) (aNil)))) (sIf (bE (eOp pIn (gRef 3) (gOwn (eTup (aCons (gOwn (eC (.str "{"))) (aCons (gOwn (eC (.str "}"))) (aCons (gOwn (eC (.str ";"))) (aNil)))))))) (sExpr (eMeth "list" 2 pAppend (aCons (gOwn (eC (.str "\n"))) (aNil)))) (sExpr (eMeth "list" 2 pAppend (aCons (gOwn (eC (.str " "))) (aNil))))))) (sRet (eSM1 pJoin (eC (.str "")) (gRef 2)))))))
def m_write_format : FM := fnM 1 4 [] b_m_write_format
def b_m__law_text : SM := sSeq (sAsg (eLst (aNil)) (tgN 1)) (sSeq (sFor (itS (eCall m__law_all_tokens (aCons (gRef 0) (aNil)))) (tgN 2) (sExpr (eMeth "list" 1 pAppend (aCons (gOwn (eOp pAdd (gRef 2) (gOwn (eOp (fun x y => immO (pIx x y)) (gOwn (eTup (aCons (gOwn (eC (.str " "))) (aCons (gOwn (eC (.str "\n"))) (aNil))))) (gOwn (eCl pInt (aCons (gOwn (eOp pIn (gRef 2) (gOwn (eTup (aCons (gOwn (eC (.str "{"))) (aCons (gOwn (eC (.str "}"))) (aCons (gOwn (eC (.str ";"))) (aNil)))))))) (aNil)))))))) (aNil))))) (sRet (eSM1 pJoin (eC (.str "")) (gRef 1))))
def m__law_text : FM := fnM 1 3 [] b_m__law_text
end PVL

/-! P11: objects of own classes: fields, methods, making. -/
namespace PVL
open PySem PySem.Spec L2
section
variable {K : PySem.W.Frag} {mg : Str → Option Value} {W : WX} {S : List Nat}
theorem ClsAt.uniq {c : Str} {C C' : Addr} (h : ClsAt K c C) (h' : ClsAt K c C') : C = C' := by
  unfold ClsAt at h h'
  rw [h] at h'
  cases h'
  rfl
theorem RVF.lookup {H : Hp} : ∀ {fs : List (Str × PV)} {vs : List (Str × V)} {F : List Addr} {f : Str} {x : PV}, RVF K H fs vs F → fs.lookup f = some x → ∃ v F1, vs.lookup f = some v ∧ RV K H x v F1
  | [], _, _, _, _, _, e => by simp at e
  | (k, y) :: r, vs, F, f, x, h, e => by
    simp only [RVF] at h
    obtain ⟨v, vr, F1, F2, rfl, h1, h2, _⟩ := h
    rw [List.lookup_cons] at e ⊢
    cases q : f == k with
    | true =>
      rw [q] at e
      simp only [Option.some.injEq] at e
      subst e
      exact ⟨v, F1, rfl, h1⟩
    | false =>
      rw [q] at e
      exact RVF.lookup h2 e
theorem RVF.no {H : Hp} : ∀ {fs : List (Str × PV)} {vs : List (Str × V)} {F : List Addr} {f : Str}, RVF K H fs vs F → fs.lookup f = none → vs.lookup f = none
  | [], vs, F, f, h, _ => by simp only [RVF] at h; rw [h.1]; rfl
  | (k, y) :: r, vs, F, f, h, e => by
    simp only [RVF] at h
    obtain ⟨v, vr, F1, F2, rfl, h1, h2, _⟩ := h
    rw [List.lookup_cons] at e ⊢
    cases q : f == k with
    | true => rw [q] at e; cases e
    | false => rw [q] at e; exact RVF.no h2 e
theorem RVF.len {H : Hp} : ∀ {fs : List (Str × PV)} {vs : List (Str × V)} {F : List Addr}, RVF K H fs vs F → vs.length = fs.length
  | [], vs, F, h => by simp only [RVF] at h; rw [h.1]; rfl
  | (k, y) :: r, vs, F, h => by
    simp only [RVF] at h
    obtain ⟨v, vr, F1, F2, rfl, h1, h2, _⟩ := h
    simp [RVF.len h2]
/-- a field is written -/
def putP (f : Str) (x : PV) : List (Str × PV) → List (Str × PV)
  | [] => [(f, x)]
  | (g, y) :: r => if g = f then (g, x) :: r else (g, y) :: putP f x r
theorem RVF.put {H : Hp} {f : Str} {x : PV} {v : V} {Fv : List Addr} (hx : RV K H x v Fv) : ∀ {fs : List (Str × PV)} {vs : List (Str × V)} {F : List Addr}, RVF K H fs vs F →
    ∃ F' G, RVF K H (putP f x fs) (putF f v vs) F' ∧ G.Sublist F ∧ F'.Perm (Fv ++ G)
  | [], vs, F, h => by
    simp only [RVF] at h
    obtain ⟨rfl, rfl⟩ := h
    refine ⟨Fv, [], ?_, .refl _, by simp⟩
    show RVF K H [(f, x)] [(f, v)] Fv
    simp only [RVF]
    exact ⟨v, [], Fv, [], rfl, hx, ⟨rfl, rfl⟩, by simp⟩
  | (g, y) :: r, vs, F, h => by
    simp only [RVF] at h
    obtain ⟨u, vr, F1, F2, rfl, h1, h2, rfl⟩ := h
    by_cases q : g = f
    · refine ⟨Fv ++ F2, F2, ?_, List.sublist_append_right _ _, .refl _⟩
      rw [show putP f x ((g, y) :: r) = (g, x) :: r from if_pos q, show putF f v ((g, u) :: vr) = (g, v) :: vr from if_pos q]
      simp only [RVF]
      exact ⟨v, vr, Fv, F2, rfl, hx, h2, rfl⟩
    · obtain ⟨F', G, a, b, c⟩ := RVF.put hx h2
      refine ⟨F1 ++ F', F1 ++ G, ?_, List.Sublist.append (List.Sublist.refl _) b, ?_⟩
      · rw [show putP f x ((g, y) :: r) = (g, y) :: putP f x r from if_neg q, show putF f v ((g, u) :: vr) = (g, u) :: putF f v vr from if_neg q]
        simp only [RVF]
        exact ⟨u, _, F1, F', rfl, h1, a, rfl⟩
      · refine (List.Perm.append_left F1 c).trans ?_
        rw [← List.append_assoc, ← List.append_assoc]
        exact List.Perm.append_right G List.perm_append_comm
/-- x.f, read -/
def rFld (c f : Str) (m : RM) : RM := fun env => (m env).bind fun x => match x with
  | .obj c' fs => if c' = c then fs.lookup f else none
  | _ => none
theorem im_rFld {C : Addr} {c f : Str} (hc : ClsAt K c C) (k : L2.Cls K C) (n : NoAttr K C f) {t : TE} {m : RM} (h : ImR K t m) : ImR K (tFld K t f) (rFld c f m) := by
  intro σ H Q env F hr hp
  refine h σ H _ env F hr ?_
  unfold rFld at hp
  cases em : m env with
  | none => rw [em] at hp; exact hp.elim
  | some x =>
    rw [em] at hp
    simp only [Option.bind_some] at hp
    intro v H' Fv s rv
    cases x with
    | obj c' fs =>
      simp only at hp
      by_cases q : c' = c
      · subst q
        rw [if_pos rfl] at hp
        simp only [RV] at rv
        obtain ⟨a, dx, vs, F', rfl, ⟨C', hc', e⟩, e2, hf, rfl⟩ := rv
        have := hc.uniq hc'
        subst this
        cases el : fs.lookup f with
        | none => rw [el] at hp; exact hp.elim
        | some y =>
          rw [el] at hp
          obtain ⟨u, F1, l1, r1⟩ := hf.lookup el
          exact ⟨a, _, dx, vs, u, rfl, e, k, n, l1, hp u H' F1 s r1⟩
      · rw [if_neg q] at hp; exact hp.elim
    | _ => exact hp.elim
/-- x.f = e -/
def sFldSet (i : Nat) (c f : Str) (m : EM) : SM := fun env => (m env).toS fun v e => match (match e[i]? with
  | some (some (.obj c' fs)) => if c' = c ∧ fs.length < 1000 then some (PV.obj c (putP f v fs)) else none
  | _ => none) with
  | some p' => .next (e.set i (some p'))
  | none => .bad
/-- a field of a tracked instance is written -/
theorem put_fld {C a dx : Addr} {H2 : Hp} {c f : Str} {fs : List (Str × PV)} {vs : List (Str × V)} {F' Fv : List Addr} {pv : PV} {v : V} (hc : ClsAt K c C) (e : H2 a = some (.ins C dx vs)) (e2 : H2 dx = some (.own a)) (hf : RVF K H2 fs vs F') (hv : RV K H2 pv v Fv)
    (n : (Fv ++ (a :: dx :: F')).Nodup) : ∃ Fx', RV K (upd H2 a (.ins C dx (putF f v vs))) (.obj c (putP f pv fs)) (.ref a) Fx' ∧ Fx'.Nodup ∧ Fm (Fv ++ (a :: dx :: F')) H2 Fx' (upd H2 a (.ins C dx (putF f v vs))) := by
  have nd : a ≠ dx := by
    intro q; subst q; rw [e] at e2; cases e2
  have n1 : ∀ b ∈ Fv, b ≠ a ∧ b ≠ dx := fun b hb => ⟨fun q => by
    subst q; exact (List.nodup_append.mp n).2.2 b hb b List.mem_cons_self rfl, fun q => by
    subst q; exact (List.nodup_append.mp n).2.2 b hb b (List.mem_cons_of_mem _ List.mem_cons_self) rfl⟩
  have n2 := (List.nodup_append.mp n).2.1
  have n3 : a ∉ F' ∧ dx ∉ F' := ⟨fun z => (List.nodup_cons.mp n2).1 (List.mem_cons_of_mem _ z), (List.nodup_cons.mp (List.nodup_cons.mp n2).2).1⟩
  have kk : ∀ (G : List Addr), a ∉ G → ∀ b o, H2 b = some o → (b ∈ G ∨ mutO o = false) → upd H2 a (.ins C dx (putF f v vs)) b = some o := fun G hG b o q m => by
    have : b ≠ a := fun z => by
      subst z
      rcases m with m | m
      · exact hG m
      · rw [e] at q; cases q; cases m
    rw [upd_ne this]; exact q
  have hf' := RVF.keep hf (kk F' n3.1)
  have hv' := RV.keep hv (kk Fv fun z => (n1 a z).1 rfl)
  obtain ⟨F2, G, hg, sG, pG⟩ := RVF.put (f := f) hv' hf'
  refine ⟨a :: dx :: F2, ?_, ?_, ?_⟩
  · simp only [RV]
    exact ⟨a, dx, _, F2, rfl, ⟨C, hc, upd_same⟩, by rw [upd_ne (Ne.symm nd)]; exact e2, hg, rfl⟩
  · have m2 : ∀ b ∈ F2, b ≠ a ∧ b ≠ dx := fun b hb => by
      rcases List.mem_append.mp (pG.subset hb) with z | z
      · exact n1 b z
      · exact ⟨fun q => by subst q; exact n3.1 (sG.subset z), fun q => by subst q; exact n3.2 (sG.subset z)⟩
    have f2 : F2.Nodup := by
      refine nodup_of_perm pG ?_
      rw [List.nodup_append]
      refine ⟨(List.nodup_append.mp n).1, (List.nodup_cons.mp (List.nodup_cons.mp n2).2).2.sublist sG, fun x hx y hy q => ?_⟩
      subst q
      exact (List.nodup_append.mp n).2.2 x hx x (List.mem_cons_of_mem _ (List.mem_cons_of_mem _ (sG.subset hy))) rfl
    rw [List.nodup_cons, List.nodup_cons]
    refine ⟨fun z => ?_, fun z => (m2 dx z).2 rfl, f2⟩
    rcases List.mem_cons.mp z with z | z
    · exact nd z
    · exact (m2 a z).1 rfl
  · refine ⟨fun b o hb q => ?_, fun b hb => .inl ?_⟩
    · rw [upd_ne fun z => hb (by subst z; exact List.mem_append_right _ List.mem_cons_self)]; exact q
    · rcases List.mem_cons.mp hb with z | z
      · subst z; exact List.mem_append_right _ List.mem_cons_self
      rcases List.mem_cons.mp z with z | z
      · subst z; exact List.mem_append_right _ (List.mem_cons_of_mem _ List.mem_cons_self)
      rcases List.mem_append.mp (pG.subset z) with z | z
      · exact List.mem_append_left _ z
      · exact List.mem_append_right _ (List.mem_cons_of_mem _ (List.mem_cons_of_mem _ (sG.subset z)))
theorem im_sFldSet {C : Addr} {i : Nat} {c f : Str} (hc : ClsAt K c C) (k : L2.Cls K C) (n : NoAttr K C f) {t : TE} {m : EM} (h : ImE K mg W t m) : ImS K mg W S (sFld K (tVar i) t f) (sFldSet i c f m) := by
  intro D σ H env F hr hn hp
  refine h σ H _ env F hr hn (hp.ofE.imp fun pv e q v H1 Fv F1 hr1 hx hn1 hf1 => ?_)
  cases ee : e[i]? with
  | none => rw [ee] at q; exact q.elim
  | some o =>
    cases o with
    | none => rw [ee] at q; exact q.elim
    | some p =>
      cases p with
      | obj c' fs =>
        rw [ee] at q
        simp only at q
        by_cases z : c' = c ∧ fs.length < 1000
        · rw [if_pos z] at q
          obtain ⟨rfl, hl⟩ := z
          obtain ⟨x, Fx, F2, ex, hx', r2, pm⟩ := hr1.take ee
          have hx0 := hx'
          simp only [RV] at hx'
          obtain ⟨a, dx, vs, F', rfl, ⟨C', hc', e1⟩, e2, hf, rfl⟩ := hx'
          have := hc.uniq hc'
          subst this
          have nn : (Fv ++ (a :: dx :: F')).Nodup := by
            have := nodup_of_perm (List.Perm.append_left Fv pm.symm) hn1
            rw [← List.append_assoc] at this
            exact (List.nodup_append.mp this).1
          obtain ⟨Fx', a1, a2, a3⟩ := put_fld (f := f) hc e1 e2 hf hx nn
          refine ⟨.ref a, ex, a, C, dx, vs, rfl, e1, k, n, by rw [hf.len]; exact hl, ?_⟩
          refine fin_set (o := some (.obj c' (putP f pv fs))) hf1 hn1 pm ?_ r2 ex (slot_lt ee) q _ Fx' a1 a2 a3
          intro b zz
          rcases List.mem_append.mp zz with zz | zz
          · exact hx.mt b zz
          · exact hx0.mt b zz
        · rw [if_neg z] at q; exact q.elim
      | _ => rw [ee] at q; exact q.elim
/-- x.f op= e -/
def sFldAugM (i : Nat) (c f : Str) (g : PV → PV → Option PV) (m : EM) : SM := fun env => match env[i]? with
  | some (some (.obj c' fs)) => if c' = c then (match fs.lookup f with
    | some p => if p.imm = true then (m env).toS fun v e => (match g p v with
      | some z => if z.imm = true then (match (match e[i]? with
        | some (some (.obj c2 fs2)) => if c2 = c ∧ fs2.length < 1000 then some (PV.obj c (putP f z fs2)) else none
        | _ => none) with
        | some p' => .next (e.set i (some p'))
        | none => .bad) else .bad
      | none => .bad) else .bad
    | none => .bad) else .bad
  | _ => .bad
theorem im_sFldAug {C : Addr} {i : Nat} {c f : Str} {r : TIp} {g : PV → PV → Option PV} (hc : ClsAt K c C) (k : L2.Cls K C) (n : NoAttr K C f) {t : TE} {m : EM} (hs : SimI K r g) (h : ImE K mg W t m) : ImS K mg W S (sFldAug K (tVar i) t r f) (sFldAugM i c f g m) := by
  intro D σ H env F hr hn hp
  unfold sFldAugM at hp
  split at hp
  · rename_i c' fs ee
    by_cases q : c' = c
    · subst q
      rw [if_pos rfl] at hp
      cases el : fs.lookup f with
      | none => rw [el] at hp; exact hp.elim
      | some p =>
        rw [el] at hp
        simp only at hp
        by_cases hi : p.imm = true
        · rw [if_pos hi] at hp
          obtain ⟨x, Fx, ex, hx⟩ := hr.get ee
          simp only [RV] at hx
          obtain ⟨a, dx, vs, F', rfl, ⟨C', hc', e1⟩, e2, hf, rfl⟩ := hx
          have := hc.uniq hc'
          subst this
          obtain ⟨u, Fu, l1, r1⟩ := hf.lookup el
          have eF := RV.imm hi r1
          subst eF
          refine ⟨.ref a, ex, a, C, dx, vs, u, rfl, e1, k, n, l1, ?_⟩
          refine h σ H _ env F hr hn (hp.ofE.imp fun pv e q v H1 Fv F1 hr1 hv hn1 hf1 => ?_)
          have ru : RV K H1 p u [] := r1.keep (keep_of (fm_left hf1).kp hr.mt (by simp))
          refine hs u v H1 _ p pv [] Fv ru hv ?_
          cases eg : g p pv with
          | none => rw [eg] at q; exact q.elim
          | some z =>
            rw [eg] at q
            simp only at q
            by_cases hz : z.imm = true
            · rw [if_pos hz] at q
              intro zv H2 Fz s2 rz nz fz
              have eF := RV.imm hz rz
              subst eF
              cases e3 : e[i]? with
              | none => rw [e3] at q; exact q.elim
              | some o =>
                cases o with
                | none => rw [e3] at q; exact q.elim
                | some p1 =>
                  cases p1 with
                  | obj c2 fs2 =>
                    rw [e3] at q
                    simp only at q
                    by_cases hh : c2 = c' ∧ fs2.length < 1000
                    · rw [if_pos hh] at q
                      obtain ⟨rfl, hl⟩ := hh
                      obtain ⟨x', Fx, F2, ex', hx', r2, pm⟩ := hr1.take e3
                      rw [ex] at ex'; cases ex'
                      have hx0 := hx'
                      simp only [RV] at hx'
                      obtain ⟨a', dx', vs', F3, ea, ⟨C', hc', e4⟩, e5, hf', rfl⟩ := hx'
                      cases ea
                      have := hc.uniq hc'
                      subst this
                      have e4' := s2 _ _ e4
                      have e5' := s2 _ _ e5
                      have nn : ([] ++ (a :: dx' :: F3)).Nodup := by
                        have := nodup_of_perm pm.symm (nd_right hn1)
                        exact (List.nodup_append.mp this).1
                      obtain ⟨Fx', a1, a2, a3⟩ := put_fld (f := f) hc e4' e5' (RVF.keep hf' fun b o q _ => s2 b o q) rz nn
                      refine ⟨dx', vs', e4', by rw [hf'.len]; exact hl, ?_⟩
                      refine fin_set (Fa := []) (F1 := F1) (o := some (.obj c2 (putP f z fs2))) ((fm_left hf1).trans (Fm.of_sm s2 fun b z => .inl z)) (nd_right hn1) pm ?_ (r2.sm s2) ex (slot_lt e3) q _ Fx' a1 a2 a3
                      intro b zz
                      obtain ⟨o, q1, q2⟩ := hx0.mt b (by simpa using zz)
                      exact ⟨o, s2 b o q1, q2⟩
                    · rw [if_neg hh] at q; exact q.elim
                  | _ => rw [e3] at q; exact q.elim
            · rw [if_neg hz] at q; exact q.elim
        · rw [if_neg hi] at hp; exact hp.elim
    · rw [if_neg q] at hp; exact hp.elim
  · exact hp.elim
def pAddN : PV → PV → Option PV
  | .int i, .int j => some (.int (i + j))
  | _, _ => none
def pSubN : PV → PV → Option PV
  | .int i, .int j => some (.int (i - j))
  | _, _ => none
theorem sim_addN : SimI K rAdd pAddN := by
  intro x y H Q px py Fx Fy hx hy h
  cases px <;> cases py <;> first
    | exact h.elim
    | (simp only [RV] at hx hy
       exact ⟨_, _, hx.1, hy.1, h _ H [] (fun _ _ z => z) (by simp [RV]) List.nodup_nil (fun b z => by simp at z)⟩)
theorem sim_subN : SimI K rSub pSubN := by
  intro x y H Q px py Fx Fy hx hy h
  cases px <;> cases py <;> first
    | exact h.elim
    | (simp only [RV] at hx hy
       exact ⟨_, _, hx.1, hy.1, h _ H [] (fun _ _ z => z) (by simp [RV]) List.nodup_nil (fun b z => by simp at z)⟩)

/-! ### methods -/
def tMethE (C : Addr) (m : Str) (sp : Sp) (E : L2.St → XK) (ta : TE) (t : TA) : TE := fun σ H Q => ta σ H fun x H1 => ∃ a dx fs, x = .ref a ∧ H1 a = some (.ins C dx fs) ∧ fs.lookup m = none ∧ t σ H1 fun vs H2 => sp (x :: vs) H2 Q (E σ)
def eMCall (c m : Str) (i : Nat) (fm : FM) (am : AM) : EM := fun env => match env[i]? with
  | some (some (.obj c' fs)) => if c' = c ∧ fs.lookup m = none then eCall fm (aCons (gRef i) am) env else .bad
  | _ => .bad
theorem im_eMCall {n i : Nat} {C : Addr} {c m : Str} {fm : FM} {ta : TA} {a : AM} (hc : ClsAt K c C) (ha : ImA K mg W ta a) (hn' : ∀ env as e, a env = .ok as e → as.length = n) :
    ImE K mg W (tMethE C m (spF K mg (n + 1) fm) (WE W) (tVar i) ta) (eMCall c m i fm a) := by
  intro σ H Q env F hr hn hp
  unfold eMCall at hp
  split at hp
  · rename_i c' fs ee
    by_cases q : c' = c ∧ fs.lookup m = none
    · rw [if_pos q] at hp
      obtain ⟨rfl, hl⟩ := q
      have hh := im_eCall (mg := mg) (W := W) (n := n + 1) (f := fm) (im_aCons (im_gRef (K := K) i) ha) (fun env as e h => by
        unfold aCons at h
        cases eg : gRef i env with
        | bad => rw [eg] at h; cases h
        | exc x e2 => rw [eg] at h; cases h
        | ok x e2 =>
          rw [eg] at h
          simp only [EO.bind_ok] at h
          cases ea : a e2 with
          | bad => rw [ea] at h; cases h
          | exc x e3 => rw [ea] at h; cases h
          | ok r3 e3 =>
            rw [ea] at h
            simp only [EO.bind_ok, EO.ok.injEq] at h
            rw [← h.1, List.length_cons, hn' e2 r3 e3 ea]) σ H Q env F hr hn hp
      obtain ⟨x, ex, hh⟩ := hh
      obtain ⟨x', Fx, ex', hx⟩ := hr.get ee
      rw [ex] at ex'; cases ex'
      simp only [RV] at hx
      obtain ⟨a', dx, vs, F', rfl, ⟨C', hc', e1⟩, e2, hf, rfl⟩ := hx
      have := hc.uniq hc'
      subst this
      exact ⟨.ref a', ex, a', dx, vs, rfl, e1, hf.no hl, hh⟩
    · rw [if_neg q] at hp; exact hp.elim
  · exact hp.elim
/-- C(..) -/
def eMake (c : Str) (fm : FM) (a : AM) : EM := fun env => (a env).bind fun as e => match takeA as e with
  | some (ps, e1) => (match fm (.obj c [] :: ps) with
    | .ok .non (some x :: qs) => .ok x (putA as qs e1)
    | .exc x (_ :: qs) => .exc x (putA as qs e1)
    | _ => .bad)
  | none => .bad
def tMakeE (C : Addr) (sp : Sp) (E : L2.St → XK) (t : TA) : TE := fun σ H Q => t σ H fun vs H1 => ∀ x dx, H1 x = none → H1 dx = none → dx ≠ x →
  sp (.ref x :: vs) (upd (upd H1 dx (.own x)) x (.ins C dx [])) (fun v H2 => v = .non ∧ Q (.ref x) H2) (E σ)
theorem im_eMake {n : Nat} {C : Addr} {c : Str} {fm : FM} {ta : TA} {a : AM} (hc : ClsAt K c C) (ha : ImA K mg W ta a) (hn' : ∀ env as e, a env = .ok as e → as.length = n) :
    ImE K mg W (tMakeE C (spF K mg (n + 1) fm) (WE W) ta) (eMake c fm a) := by
  intro σ H Q env F hr hn hp
  have hlen := hn' env
  unfold eMake at hp
  cases ea : a env with
  | bad => rw [ea] at hp; exact hp.elim
  | exc x e => exact ha σ H _ env F hr hn (by rw [ea] at hp ⊢; exact hp)
  | ok as e =>
    refine ha σ H _ env F hr hn ?_
    rw [ea] at hp ⊢
    simp only [EO.bind_ok] at hp
    have hl : as.length = n := hlen as e ea
    intro vs H1 Fv F1 hr1 hx hn1 hf1 x0 dx0 fx fdx nxd
    cases et : takeA as e with
    | none => rw [et] at hp; exact hp.elim
    | some z =>
      obtain ⟨ps, e1⟩ := z
      rw [et] at hp
      simp only at hp
      obtain ⟨hl1, Fa, Fr, hv, hr2, pm⟩ := takeA_ok hx hr1 et
      have nA : (Fa ++ Fr).Nodup := nodup_of_perm pm.symm hn1
      have hf2 : Fm F H (Fa ++ Fr) H1 := hf1.sub fun b z => pm.symm.subset z
      have lps : ps.length = n := by
        rw [← hv.length, ← hl]
        clear hp et hr2 hv pm nA hf2 hl ea hl1
        induction as generalizing vs Fv with
        | nil => simp only [RGs] at hx; rw [hx.1]; rfl
        | cons x r ih =>
          simp only [RGs] at hx
          obtain ⟨v, vr, G1, G2, rfl, _, hx, rfl⟩ := hx
          have := ih vr G2 hx (by rw [List.append_assoc] at hn1; exact (List.nodup_append.mp hn1).2.1) (hf1.sub fun b z => by rw [List.append_assoc]; exact List.mem_append_right _ z)
          simp [this]
      -- the new object
      generalize hH2 : upd (upd H1 dx0 (.own x0)) x0 (.ins C dx0 []) = H2
      have s12 : Sm H1 H2 := by
        subst hH2
        exact (sm_upd fdx).trans (sm_upd (by rw [upd_ne (Ne.symm nxd)]; exact fx))
      have ex0 : H2 x0 = some (.ins C dx0 []) := by subst hH2; exact upd_same
      have ed0 : H2 dx0 = some (.own x0) := by subst hH2; rw [upd_ne nxd]; exact upd_same
      have hv2 : RVL K H2 ps vs Fa := hv.sm s12
      have hr2' : RE K H2 e1 σ Fr := hr2.sm s12
      have hself : RV K H2 (.obj c []) (.ref x0) [x0, dx0] := by
        simp only [RV]
        exact ⟨x0, dx0, [], [], rfl, ⟨C, hc, ex0⟩, ed0, by simp [RVF], rfl⟩
      have hall : RVL K H2 (.obj c [] :: ps) (.ref x0 :: vs) ([x0, dx0] ++ Fa) := RVL.cons hself hv2
      have ninA : ∀ b ∈ Fa ++ Fr, b ≠ x0 ∧ b ≠ dx0 := fun b hb => by
        have : ∃ o, H1 b = some o := by
          rcases List.mem_append.mp hb with z | z
          · obtain ⟨o, q, _⟩ := hv.mt b z; exact ⟨o, q⟩
          · obtain ⟨o, q, _⟩ := hr2.mt b z; exact ⟨o, q⟩
        obtain ⟨o, q⟩ := this
        exact ⟨fun z => (by subst z; rw [q] at fx; cases fx), fun z => (by subst z; rw [q] at fdx; cases fdx)⟩
      have nS : ([x0, dx0] ++ (Fa ++ Fr)).Nodup := by
        rw [List.nodup_append]
        refine ⟨by rw [List.nodup_cons]; exact ⟨by simpa using Ne.symm nxd, by simp⟩, nA, fun p hp q hq e => ?_⟩
        subst e
        have := ninA p hq
        simp only [List.mem_cons, List.not_mem_nil, or_false] at hp
        rcases hp with z | z
        · exact this.1 z
        · exact this.2 z
      have nS2 : (([x0, dx0] ++ Fa) ++ Fr).Nodup := by rw [List.append_assoc]; exact nS
      have nB : (Fr ++ ([x0, dx0] ++ Fa)).Nodup := nodup_of_perm List.perm_append_comm nS2
      have f02 : Fm F H (([x0, dx0] ++ Fa) ++ Fr) H2 := by
        refine ⟨fun b o hb q => s12 _ _ (hf2.kp b o hb q), fun b hb => ?_⟩
        rw [List.append_assoc] at hb
        rcases List.mem_append.mp hb with z | z
        · have hn1' : H1 b = none := by
            simp only [List.mem_cons, List.not_mem_nil, or_false] at z
            rcases z with z | z
            · rw [z]; exact fx
            · rw [z]; exact fdx
          by_cases hbF : b ∈ F
          · exact .inl hbF
          · right
            cases hq : H b with
            | none => rfl
            | some o' => have := hf2.kp b o' hbF hq; rw [hn1'] at this; cases this
        · exact hf2.fr b z
      have shrink : ∀ {q0 : Option PV} {qs : List (Option PV)} {H3 : Hp} {Fp : List Addr}, RE K H3 (q0 :: qs) ((V.ref x0 :: vs).map some) Fp → ∃ F2, RE K H3 qs (vs.map some) F2 ∧ F2.Sublist Fp := by
        intro q0 qs H3 Fp rp
        cases q0 with
        | none =>
          simp only [List.map_cons, RE] at rp
          obtain ⟨y, s, eq, rp⟩ := rp
          cases eq
          exact ⟨Fp, rp, .refl _⟩
        | some x =>
          simp only [List.map_cons, RE] at rp
          obtain ⟨y, s, G1, G2, eq, _, rp, rfl⟩ := rp
          cases eq
          exact ⟨G2, rp, List.sublist_append_right _ _⟩
      refine ⟨.obj c [] :: ps, [x0, dx0] ++ Fa, by rw [List.length_cons, lps], hall, (List.nodup_append.mp nS2).1, ?_⟩
      cases ef : fm (.obj c [] :: ps) with
      | bad => rw [ef] at hp; exact hp.elim
      | exc x qs =>
        rw [ef] at hp
        cases qs with
        | nil => exact hp.elim
        | cons q0 qs =>
          simp only at hp
          intro cls d H3 Fp0 rp0 np0 fm0 rx
          obtain ⟨Fp, rp, sp⟩ := shrink rp0
          have hr3 := hr2'.keep (keep_ap nB hall.mt fm0)
          have n5 := nd_later nB hr2'.mt fm0 np0
          have n6 : (Fp ++ Fr).Nodup := nodup_of_perm List.perm_append_comm (n5.sublist (List.Sublist.append (List.Sublist.refl _) sp))
          obtain ⟨F', a1, b1, c1⟩ := putA_ok hx rp hr3 n6
          refine hp cls d H3 F' a1 b1 (f02.trans ⟨fm0.kp.mono fun b z => List.mem_append_left _ z, fun b z => ?_⟩) rx
          rcases List.mem_append.mp (c1 b z) with z | z
          · exact (fm0.fr b (sp.subset z)).imp (fun z => List.mem_append_left _ z) id
          · exact .inl (List.mem_append_right _ z)
      | ok x qs =>
        rw [ef] at hp
        cases x with
        | non =>
          cases qs with
          | nil => exact hp.elim
          | cons q0 qs =>
            cases q0 with
            | none => exact hp.elim
            | some y =>
              simp only at hp
              intro v H3 Fw Fp rx rp np fm0
              simp only [RV] at rx
              obtain ⟨rfl, rfl⟩ := rx
              refine ⟨rfl, ?_⟩
              simp only [List.map_cons, RE] at rp
              obtain ⟨v0, r0, G1, G2, eq, ry, rp, rfl⟩ := rp
              cases eq
              have hr3 := hr2'.keep (keep_ap nB hall.mt fm0)
              have n5 := nd_later nB hr2'.mt fm0 np
              have n6 : (G1 ++ (G2 ++ Fr)).Nodup := by
                have : (([] ++ (G1 ++ G2)) ++ Fr).Nodup := nodup_of_perm List.perm_append_comm n5
                simpa using this
              obtain ⟨F', a1, b1, c1⟩ := putA_ok hx rp hr3 (List.nodup_append.mp n6).2.1
              refine hp (.ref x0) H3 G1 F' a1 ry ?_ (f02.trans ⟨fm0.kp.mono fun b z => List.mem_append_left _ z, fun b z => ?_⟩)
              · rw [List.nodup_append]
                refine ⟨(List.nodup_append.mp n6).1, b1, fun q hq w hw e => ?_⟩
                subst e
                exact (List.nodup_append.mp n6).2.2 q hq q (c1 q hw) rfl
              · have go : b ∈ G1 ++ G2 → b ∈ ([x0, dx0] ++ Fa) ++ Fr ∨ H2 b = none := fun z => (fm0.fr b (by simpa using z)).imp (fun z => List.mem_append_left _ z) id
                rcases List.mem_append.mp z with z | z
                · exact go (List.mem_append_left _ z)
                · rcases List.mem_append.mp (c1 b z) with z | z
                  · exact go (List.mem_append_right _ z)
                  · exact .inl (List.mem_append_right _ z)
        | _ => exact hp.elim
end
end PVL

/-! P12: joint rules: constants of the module, fields, methods, making. -/
namespace PVL
open PySem PySem.Spec L2
/-! ### constants of the module -/
mutual
def cstK (K : PySem.W.Frag) : PV → Value → Bool
  | .non, u => match u with | .none => true | _ => false
  | .bl b, u => match u with | .bool c => b == c | _ => false
  | .int i, u => match u with | .int j _ => decide (i = j) | _ => false
  | .str x, u => match u with | .str y _ => decide (x = y) | _ => false
  | .tup xs, u => match u with
    | .ref a => (match K.lookup a with
      | some o => (match o.cls, o.data with
        | .type n, .seq its _ => decide (n = "tuple") && (decide (its.size ≤ sizeLine) && cstL K xs its.toList)
        | _, _ => false)
      | none => false)
    | _ => false
  | _, _ => false
def cstL (K : PySem.W.Frag) : List PV → List Value → Bool
  | [], us => us.isEmpty
  | x :: xs, us => match us with
    | u :: r => cstK K x u && cstL K xs r
    | [] => false
end
section
variable {K : PySem.W.Frag}
mutual
theorem cstK_ok : ∀ (x : PV) (u : Value), cstK K x u = true → ∃ v, RelV v u ∧ ∀ H, RV K H x v []
  | .non, u, h => by
    cases u <;> simp [cstK] at h
    exact ⟨.non, rfl, fun H => by simp [RV]⟩
  | .bl b, u, h => by
    cases u <;> simp [cstK] at h
    subst h
    exact ⟨.bl b, rfl, fun H => by simp [RV]⟩
  | .int i, u, h => by
    cases u <;> simp [cstK] at h
    subst h
    exact ⟨.int i, ⟨_, rfl⟩, fun H => by simp [RV]⟩
  | .str x, u, h => by
    cases u <;> simp [cstK] at h
    subst h
    exact ⟨.str x, ⟨_, rfl⟩, fun H => by simp [RV]⟩
  | .tup xs, u, h => by
    cases u with
    | ref a =>
      simp only [cstK] at h
      cases eo : K.lookup a with
      | none => rw [eo] at h; cases h
      | some o =>
        rw [eo] at h
        simp only at h
        split at h
        · rename_i n its k e1 e2
          simp only [Bool.and_eq_true, decide_eq_true_eq] at h
          obtain ⟨rfl, hz, hl⟩ := h
          obtain ⟨vs, r, hv⟩ := cstL_ok xs its.toList hl
          refine ⟨.ref a, rfl, fun H => ?_⟩
          simp only [RV]
          exact ⟨a, vs, rfl, .inr ⟨o, its, k, eo, e1, e2, hz, r⟩, hv H⟩
        · cases h
    | _ => simp [cstK] at h
  | .frz _, u, h => by simp [cstK] at h
  | .lst _, u, h => by simp [cstK] at h
  | .dct _, u, h => by simp [cstK] at h
  | .obj _ _, u, h => by simp [cstK] at h
  | .ty _, u, h => by simp [cstK] at h
theorem cstL_ok : ∀ (xs : List PV) (us : List Value), cstL K xs us = true → ∃ vs, Vals vs us ∧ ∀ H, RVL K H xs vs []
  | [], us, h => by
    cases us with
    | nil => exact ⟨[], .nil, fun H => by simp [RVL]⟩
    | cons u r => simp [cstL] at h
  | x :: xs, us, h => by
    cases us with
    | nil => simp [cstL] at h
    | cons u r =>
      simp only [cstL, Bool.and_eq_true] at h
      obtain ⟨v, r1, h1⟩ := cstK_ok x u h.1
      obtain ⟨vs, r2, h2⟩ := cstL_ok xs r h.2
      refine ⟨v :: vs, .cons r1 r2, fun H => ?_⟩
      simp only [RVL]
      exact ⟨v, vs, [], [], rfl, h1 H, h2 H, rfl⟩
end
end
/-- the module's name stands for the value -/
def GlbT (K : PySem.W.Frag) (mg : Str → Option Value) (x : Str) (pv : PV) : Prop := ∃ u v, mg x = some u ∧ RelV v u ∧ ∀ H, RV K H pv v []
theorem glb_of {K : PySem.W.Frag} {mg : Str → Option Value} {x : Str} {pv : PV} {u : Value} (hm : mg x = some u) (h : cstK K pv u = true) : GlbT K mg x pv := by
  obtain ⟨v, r, hv⟩ := cstK_ok pv u h
  exact ⟨u, v, hm, r, hv⟩
def tGlb (K : PySem.W.Frag) (pv : PV) : TE := fun _ H Q => ∀ v, (∀ H, RV K H pv v []) → Q v H
/-! ### classes -/
/-- a field's name is no attribute of the class -/
def FldT (K : PySem.W.Frag) (c f : Str) : Prop := ∃ C, ClsAt K c C ∧ L2.Cls K C ∧ NoAttr K C f
def tFldC (K : PySem.W.Frag) (c f : Str) (t : TE) : TE := fun σ H Q => ∀ C, ClsAt K c C → L2.Cls K C → NoAttr K C f → tFld K t f σ H Q
/-- a method as it is called: by its class and name, within so much room, as the pure function (self first) -/
def CalM (P : Program) (w : World) (K : PySem.W.Frag) (mg : Str → Option Value) (base : Heap) (c m : Str) (k n : Nat) (fm : FM) : Prop :=
  ∃ (C f : Addr) (fd : FuncData) (ps : List Str), ClsAt K c C ∧ L2.Cls K C ∧ Meth K C m f ∧ FnOk P w K mg base (L2.CX P w) k f fd ps (spF K mg (n + 1) fm) ∧ Binds K fd ps []
/-- a class as it is made -/
def CalI (P : Program) (w : World) (K : PySem.W.Frag) (mg : Str → Option Value) (base : Heap) (c : Str) (k n : Nat) (fm : FM) : Prop :=
  ∃ (C f : Addr) (fd : FuncData) (ps : List Str), ClsAt K c C ∧ mg c = some (.ref C) ∧ Mk K C f ∧ FnOk P w K mg base (L2.CX P w) k f fd ps (spF K mg (n + 1) fm) ∧ Binds K fd ps []
/-- o.m(e, ..) where what is raised is wished for at the caller's slots; the class is told by its name -/
def tMethC (K : PySem.W.Frag) (c m : Str) (sp : Sp) (E : L2.St → XK) (ta : TE) (t : TA) : TE := fun σ H Q => ∀ C, ClsAt K c C → tMethE C m sp E ta t σ H Q
def tMakeC (K : PySem.W.Frag) (c : Str) (sp : Sp) (E : L2.St → XK) (t : TA) : TE := fun σ H Q => ∀ C, ClsAt K c C → tMakeE C sp E t σ H Q
section
variable {X : Cx} {CX : CXT} {k : Nat} {f C : Addr} {fd : FuncData} {ps : List Str} {sp : Sp} {E : L2.St → XK} {x m c : Str} {p pos apos : Pos} {e o : Expr} {es : List Expr} {ta : TE} {t : TA}
theorem pe_methE {pl : Sem Bool} (he : PE X o ta) (hc : ClsAt X.K c C) (cl : L2.Cls X.K C) (hm : Meth X.K C m f) (F : FnOk X.prog X.w X.K X.mg X.base CX k f fd ps sp) (hr : Room k X.A) (hb : Binds X.K fd ps []) (hx : ∀ σ, PassesAt CX X σ (E σ)) (ha : PA X (e :: es) t)
    (hst : starEach (e :: es) X.env = (false, eval e X.env) :: starEach es X.env) (hpl : (backTo pos (starEach es X.env)).any (·.1) = false)
    (ht : eval (.Call (.Attribute o m apos) (e :: es) [] pos) X.env = (do
      let ov ← eval o X.env
      standAt apos.atName
      let (f, first) ← holding [ov] (getMethod ov m pl)
      callWith pos f first (backTo pos (starEach (e :: es) X.env)) (backToKw pos (keywordEach [] X.env)))) :
    PE X (.Call (.Attribute o m apos) (e :: es) [] pos) (tMethC X.K c m sp E ta t) := by
  refine ⟨fun pins s σ H Q I h => ?_⟩
  refine PySem.W.methodCall_KW (pl := pl) (thn (he.run pins s σ H _ I (h C hc)) fun u s1 ⟨x, H1, I1, rx, a, dx, fs, ex, ea, l, q⟩ => ?_) ht
  subst ex
  obtain rfl : u = Value.ref a := rx
  refine getmeth_ok I1 ea cl hm l ?_
  refine PySem.W.callWith_K (first := [.ref a]) (h₀ := X.base) I.ok.mod.kin hm.kp (thn (ha.run pos pins s1 σ H1 _ I1 q) fun us s2 ⟨vs, H2, I2, r, q2⟩ => ⟨I2.kIn, ?_⟩) hst hpl
  exact run_fnS (us := .ref a :: us) (vs := .ref a :: vs) F hr hb (hx σ) I2 (.cons rfl r) q2
theorem pe_methE0 {pl : Sem Bool} (he : PE X o ta) (hc : ClsAt X.K c C) (cl : L2.Cls X.K C) (hm : Meth X.K C m f) (F : FnOk X.prog X.w X.K X.mg X.base CX k f fd ps sp) (hr : Room k X.A) (hb : Binds X.K fd ps []) (hx : ∀ σ, PassesAt CX X σ (E σ))
    (ht : eval (.Call (.Attribute o m apos) [] [] pos) X.env = (do
      let ov ← eval o X.env
      standAt apos.atName
      let (f, first) ← holding [ov] (getMethod ov m pl)
      callWith pos f first (backTo pos (starEach [] X.env)) (backToKw pos (keywordEach [] X.env)))) :
    PE X (.Call (.Attribute o m apos) [] [] pos) (tMethC X.K c m sp E ta tNil) := by
  refine ⟨fun pins s σ H Q I h => ?_⟩
  refine PySem.W.methodCall_KW (pl := pl) (thn (he.run pins s σ H _ I (h C hc)) fun u s1 ⟨x, H1, I1, rx, a, dx, fs, ex, ea, l, q⟩ => ?_) ht
  subst ex
  obtain rfl : u = Value.ref a := rx
  refine getmeth_ok I1 ea cl hm l ?_
  exact PySem.W.callWith_K0 (first := [.ref a]) I1.kIn hm.kp (run_fnS (us := [.ref a]) (vs := [.ref a]) F hr hb (hx σ) I1 (.cons rfl .nil) q)
theorem run_makeS {pins : List (Addr × Obj)} {σ : L2.St} {H : Hp} {s : Shared} {Q : VK} {us : List Value} {vs : List V} (M : Mk X.K C f) (F : FnOk X.prog X.w X.K X.mg X.base CX k f fd ps sp) (hr : Room (k + 1) X.A) (hb : Binds X.K fd ps [])
    (hx : ∀ σ, PassesAt CX X σ (E σ)) (I : Inv X pins σ H s) (r : Vals vs us) (hxx : ∀ x dx, H x = none → H dx = none → dx ≠ x → ∀ s e s', CX X.stack (upd (upd H dx (.own x)) x (.ins C dx [])) s (E σ) e s' → Inv X pins σ (upd (upd H dx (.own x)) x (.ins C dx [])) s → X.xe e s')
    (h : ∀ x dx, H x = none → H dx = none → dx ≠ x → sp (.ref x :: vs) (upd (upd H dx (.own x)) x (.ins C dx [])) (fun v H2 => v = .non ∧ Q (.ref x) H2) (E σ)) :
    wpAny (model X.prog X.w) X.A (call (.ref C) us) (EP X pins σ Q) X.xe s := by
  have nxd : s.heap.objs.size ≠ s.heap.objs.size + 1 := Nat.ne_of_lt (Nat.lt_succ_self _)
  have hq := h (s.heap.objs.size + 1) s.heap.objs.size (I.hok.fresh (Nat.le_succ _)) (I.hok.fresh (Nat.le_refl _)) nxd
  have I2 := Inv.made (C := C) I
  have r2 : Vals (V.ref (s.heap.objs.size + 1) :: vs) (Value.ref (s.heap.objs.size + 1) :: us) := .cons rfl r
  have hl : (Value.ref (s.heap.objs.size + 1) :: us).length = ps.length := by
    have e := r2.length
    rw [F.len _ _ _ _ hq] at e
    exact e.symm
  have b := hb _ (Value.ref (s.heap.objs.size + 1) :: us) I2.kIn (by rw [List.append_nil]; exact hl)
  rw [List.append_nil] at b
  refine wpAny_call (make_map (f := f) I.kIn M.makes M.init (beq_iff_eq.mp M.fn) (codeAny_mono (F.run _ X.stack _ _ ⟨Value.ref (s.heap.objs.size + 1) :: us, []⟩ (Value.ref (s.heap.objs.size + 1) :: us) _ _ (E σ) (hr.make C us [])
    (I2.env0.make C us []) b r2 hq) fun r s' hq' => ?_))
  cases r with
  | error e => exact hxx _ _ (I.hok.fresh (Nat.le_succ _)) (I.hok.fresh (Nat.le_refl _)) nxd _ e s' hq' I2
  | ok fl =>
    cases fl with
    | ret u =>
      obtain ⟨v, H', I3, rv, ev, q3⟩ := I2.after hq'
      subst ev
      exact ⟨rv, ⟨V.ref (s.heap.objs.size + 1), H', I3, rfl, q3⟩⟩
    | next => exact False.elim hq'
    | brk => exact False.elim hq'
    | cont => exact False.elim hq'
theorem pe_makeE (hc : ClsAt X.K c C) (M : Mk X.K C f) (F : FnOk X.prog X.w X.K X.mg X.base CX k f fd ps sp) (hr : Room (k + 1) X.A) (hg : Gl X x) (hm : X.mg x = some (.ref C)) (hb : Binds X.K fd ps []) (hx : ∀ σ, PassesAt CX X σ (E σ))
    (ha : PA X (e :: es) t) (hdb : (x == ("__debug__" : Str)) = false) (he : starEach (e :: es) X.env = (false, eval e X.env) :: starEach es X.env) (hpl : (backTo pos (starEach es X.env)).any (·.1) = false) :
    PE X (.Call (.Name x p) (e :: es) [] pos) (tMakeC X.K c sp E t) := by
  refine ⟨fun pins s σ H Q I h => ?_⟩
  refine wpAny_Call_Name_kw (ld_glob I hg hm ?_ hdb)
  refine PySem.W.callWith_K (h₀ := X.base) I.ok.mod.kin M.kp (thn (ha.run pos pins s σ H _ I (h C hc)) fun us s1 ⟨vs, H1, I1, r, q⟩ => ⟨I1.kIn, ?_⟩) he hpl
  exact run_makeS M F hr hb hx I1 r (fun x dx _ _ _ s e s' z J => hx σ pins _ s e s' J z) q
theorem pe_makeE0 (hc : ClsAt X.K c C) (M : Mk X.K C f) (F : FnOk X.prog X.w X.K X.mg X.base CX k f fd ps sp) (hr : Room (k + 1) X.A) (hg : Gl X x) (hm : X.mg x = some (.ref C)) (hb : Binds X.K fd ps []) (hx : ∀ σ, PassesAt CX X σ (E σ))
    (hdb : (x == ("__debug__" : Str)) = false) : PE X (.Call (.Name x p) [] [] pos) (tMakeC X.K c sp E tNil) := by
  refine ⟨fun pins s σ H Q I h => ?_⟩
  refine wpAny_Call_Name_kw (ld_glob I hg hm ?_ hdb)
  exact PySem.W.callWith_K0 I.kIn M.kp (run_makeS (us := []) M F hr hb hx I .nil (fun x dx _ _ _ s e s' z J => hx σ pins _ s e s' J z) (h C hc))
end
section
variable {X : Cx} {W : WX} {S : List Nat} {e a b c : Expr} {es : List Expr} {te ta tb : TE} {tA : TA} {m ma mb : EM} {ga gb : GM} {ra rb : RM} {am : AM} {pos p p2 apos : Pos}
variable (K : PySem.W.Frag)
theorem jr_glob (mg : Str → Option Value) {x : Str} {pv : PV} (h : GlbT K mg x pv) (hg : Gl X x := by rfl) (hd : (x == ("__debug__" : Str)) = false := by decide) (hK : X.K = K := by rfl) (hmg : X.mg = mg := by rfl) : JR X (.Name x pos) (tGlb K pv) (rC pv) := by
  subst hK; subst hmg
  obtain ⟨u, v, hm, r, hv⟩ := h
  refine ⟨⟨fun pins s σ H Q I h => ?_⟩, fun σ H Q env F hr hp v' hv' => hp v' H [] (fun _ _ z => z) (hv' H)⟩
  exact (pe_glob hg hm r hd).run pins s σ H Q I (h v hv)
theorem jr_fld {c f : Str} (h : FldT K c f) (ho : JR X e te ra) (hK : X.K = K := by rfl) (hb : attributeBase e f X.env (eval e X.env) = eval e X.env := by rfl) : JR X (.Attribute e f pos) (tFldC K c f te) (rFld c f ra) := by
  subst hK
  obtain ⟨C, h1, h2, h3⟩ := h
  refine ⟨⟨fun pins s σ H Q I h => (pe_fld ho.pe hb).run pins s σ H Q I (h C h1 h2 h3)⟩, fun σ H Q env F hr hp C' z1 z2 z3 => im_rFld z1 z2 z3 ho.im σ H Q env F hr hp⟩
def sFldC (K : PySem.W.Frag) (c f : Str) (to tv : TE) : TS := fun D σ H => ∀ C, ClsAt K c C → L2.Cls K C → NoAttr K C f → sFld K to tv f D σ H
def sFldAugC (K : PySem.W.Frag) (c f : Str) (to tv : TE) (r : TIp) : TS := fun D σ H => ∀ C, ClsAt K c C → L2.Cls K C → NoAttr K C f → sFldAug K to tv r f D σ H
theorem js_fldSet {c f x : Str} {i : Nat} (h : FldT K c f) (ho : JR X (.Name x p) (tVar i) (rVar i)) (hv : JE X W e te m) (hK : X.K = K := by rfl) (hs : swapsWith e (some (.Attribute (.Name x p) f p2)) pos.line X.env = pure false := by rfl) :
    JS X W S (.Assign [.Attribute (.Name x p) f p2] e pos) (sFldC K c f (tVar i) te) (sFldSet i c f m) := by
  subst hK
  obtain ⟨C, h1, h2, h3⟩ := h
  refine ⟨⟨fun pins s σ H D I h => (ps_fld ho.pe hv.pe hs).run pins s σ H D I (h C h1 h2 h3)⟩, fun D σ H env F hr hn hp C' z1 z2 z3 => im_sFldSet z1 z2 z3 hv.im D σ H env F hr hn hp⟩
theorem js_fldAug {c f x : Str} {i : Nat} {op : Operator} {r : TIp} {g : PV → PV → Option PV} (hsim : SimI K r g) (hop : InOp X op r) (h : FldT K c f) (ho : JR X (.Name x p) (tVar i) (rVar i)) (hv : JE X W e te m) (hK : X.K = K := by rfl) :
    JS X W S (.AugAssign (.Attribute (.Name x p) f p2) op e pos) (sFldAugC K c f (tVar i) te r) (sFldAugM i c f g m) := by
  subst hK
  obtain ⟨C, h1, h2, h3⟩ := h
  refine ⟨⟨fun pins s σ H D I h => (ps_fldaug ho.pe hv.pe hop).run pins s σ H D I (h C h1 h2 h3)⟩, fun D σ H env F hr hn hp C' z1 z2 z3 => im_sFldAug z1 z2 z3 hsim hv.im D σ H env F hr hn hp⟩
theorem k_mcall (mg : Str → Option Value) {c m x : Str} {i k n : Nat} {fm : FM} {pl : Sem Bool} (cm : CalM X.prog X.w K mg X.base c m k n fm) (hr : Room k X.A) (tk : Takes X W) (ho : JR X (.Name x p) (tVar i) (rVar i)) (ha : JA X W (e :: es) tA am) (hK : X.K = K := by rfl) (hmg : X.mg = mg := by rfl) (hl : (e :: es).length = n := by rfl)
    (hst : starEach (e :: es) X.env = (false, eval e X.env) :: starEach es X.env := by rfl) (hpl : (backTo pos (starEach es X.env)).any (·.1) = false := by rfl)
    (ht : eval (.Call (.Attribute (.Name x p) m apos) (e :: es) [] pos) X.env = (do
      let ov ← eval (.Name x p) X.env
      standAt apos.atName
      let (f, first) ← holding [ov] (getMethod ov m pl)
      callWith pos f first (backTo pos (starEach (e :: es) X.env)) (backToKw pos (keywordEach [] X.env))) := by rfl) :
    JE X W (.Call (.Attribute (.Name x p) m apos) (e :: es) [] pos) (tMethC K c m (spF K mg (n + 1) fm) (WE W) (tVar i) tA) (eMCall c m i fm am) := by
  subst hK; subst hmg
  obtain ⟨C, f, fd, ps, hc, cl, hm, F, hb⟩ := cm
  exact ⟨pe_methE ho.pe hc cl hm F hr hb (fun σ => passAt tk σ) ha.pa hst hpl ht, fun σ H Q env F hr hn hp C' z => im_eMCall z ha.im (fun env as e h => by rw [ha.len env as e h, hl]) σ H Q env F hr hn hp⟩
theorem k_mcall0 (mg : Str → Option Value) {c m x : Str} {i k : Nat} {fm : FM} {pl : Sem Bool} (cm : CalM X.prog X.w K mg X.base c m k 0 fm) (hr : Room k X.A) (tk : Takes X W) (ho : JR X (.Name x p) (tVar i) (rVar i)) (hK : X.K = K := by rfl) (hmg : X.mg = mg := by rfl)
    (ht : eval (.Call (.Attribute (.Name x p) m apos) [] [] pos) X.env = (do
      let ov ← eval (.Name x p) X.env
      standAt apos.atName
      let (f, first) ← holding [ov] (getMethod ov m pl)
      callWith pos f first (backTo pos (starEach [] X.env)) (backToKw pos (keywordEach [] X.env))) := by rfl) :
    JE X W (.Call (.Attribute (.Name x p) m apos) [] [] pos) (tMethC K c m (spF K mg 1 fm) (WE W) (tVar i) tNil) (eMCall c m i fm aNil) := by
  subst hK; subst hmg
  obtain ⟨C, f, fd, ps, hc, cl, hm, F, hb⟩ := cm
  exact ⟨pe_methE0 ho.pe hc cl hm F hr hb (fun σ => passAt tk σ) ht, fun σ H Q env F hr hn hp C' z => im_eMCall (n := 0) z im_aNil (fun env as e h => by simp only [aNil, EO.ok.injEq] at h; rw [← h.1]; rfl) σ H Q env F hr hn hp⟩
theorem k_make (mg : Str → Option Value) {c : Str} {k n : Nat} {fm : FM} (ci : CalI X.prog X.w K mg X.base c k n fm) (hr : Room (k + 1) X.A) (tk : Takes X W) (ha : JA X W (e :: es) tA am) (hK : X.K = K := by rfl) (hmg : X.mg = mg := by rfl) (hl : (e :: es).length = n := by rfl) (hg : Gl X c := by rfl) (hdb : (c == ("__debug__" : Str)) = false := by decide)
    (he : starEach (e :: es) X.env = (false, eval e X.env) :: starEach es X.env := by rfl) (hpl : (backTo pos (starEach es X.env)).any (·.1) = false := by rfl) :
    JE X W (.Call (.Name c p) (e :: es) [] pos) (tMakeC K c (spF K mg (n + 1) fm) (WE W) tA) (eMake c fm am) := by
  subst hK; subst hmg
  obtain ⟨C, f, fd, ps, hc, hm, M, F, hb⟩ := ci
  exact ⟨pe_makeE hc M F hr hg hm hb (fun σ => passAt tk σ) ha.pa hdb he hpl, fun σ H Q env F hr hn hp C' z => im_eMake z ha.im (fun env as e h => by rw [ha.len env as e h, hl]) σ H Q env F hr hn hp⟩
theorem k_make0 (mg : Str → Option Value) {c : Str} {k : Nat} {fm : FM} (ci : CalI X.prog X.w K mg X.base c k 0 fm) (hr : Room (k + 1) X.A) (tk : Takes X W) (hK : X.K = K := by rfl) (hmg : X.mg = mg := by rfl) (hg : Gl X c := by rfl) (hdb : (c == ("__debug__" : Str)) = false := by decide) :
    JE X W (.Call (.Name c p) [] [] pos) (tMakeC K c (spF K mg 1 fm) (WE W) tNil) (eMake c fm aNil) := by
  subst hK; subst hmg
  obtain ⟨C, f, fd, ps, hc, hm, M, F, hb⟩ := ci
  exact ⟨pe_makeE0 hc M F hr hg hm hb (fun σ => passAt tk σ) hdb, fun σ H Q env F hr hn hp C' z => im_eMake (n := 0) z im_aNil (fun env as e h => by simp only [aNil, EO.ok.injEq] at h; rw [← h.1]; rfl) σ H Q env F hr hn hp⟩
end
section
variable {P : Program} {w : World} {K : PySem.W.Frag} {mg : Str → Option Value} {base : Heap}
theorem calm_of {c m qual : Str} {st : Stmt} {f C : Addr} {fd : FuncData} {N ps : List Str} {k n mm : Nat} {asg S : List Nat} {body : SM} (hc : ClsAt K c C) (cl : L2.Cls K C) (M : Meth K C m f) (F : L2.Fun K m qual st f fd) (hb : Binds K fd ps []) (sc : FnScope N ps (defScope st)) (hn : ps.length = n + 1) (hN : N.length = mm)
    (hJ : ∀ (cdv : Value) (A : Around) (outer : List Env) (s : Shared) (H : Hp) (E : XK), Room k (A.deeper (PyProof.Rows.envOfC qual (defScope st) s.heap.objs.size f cdv)) →
      ∃ t, JSs (cxOf (L2.CX P w) P w K mg base N qual (defScope st) f cdv A outer s H E) (fun cls d _ H => E cls d H) S (defBody st) t body) (hS : ∀ j ∈ S, j < n + 1 → j ∈ asg) :
    CalM P w K mg base c m (k + 1) n (fnM (n + 1) mm asg body) := ⟨C, f, fd, ps, hc, cl, M, fnok_of F sc hn hN hJ hS, hb⟩
theorem cali_of {c qual : Str} {st : Stmt} {f C : Addr} {fd : FuncData} {N ps : List Str} {k n mm : Nat} {asg S : List Nat} {body : SM} (hc : ClsAt K c C) (hm : mg c = some (.ref C)) (M : Mk K C f) (F : L2.Fun K "__init__" qual st f fd) (hb : Binds K fd ps []) (sc : FnScope N ps (defScope st)) (hn : ps.length = n + 1) (hN : N.length = mm)
    (hJ : ∀ (cdv : Value) (A : Around) (outer : List Env) (s : Shared) (H : Hp) (E : XK), Room k (A.deeper (PyProof.Rows.envOfC qual (defScope st) s.heap.objs.size f cdv)) →
      ∃ t, JSs (cxOf (L2.CX P w) P w K mg base N qual (defScope st) f cdv A outer s H E) (fun cls d _ H => E cls d H) S (defBody st) t body) (hS : ∀ j ∈ S, j < n + 1 → j ∈ asg) :
    CalI P w K mg base c (k + 1) n (fnM (n + 1) mm asg body) := ⟨C, f, fd, ps, hc, hm, M, fnok_of F sc hn hN hJ hS, hb⟩
theorem calm_bad {c m qual : Str} {st : Stmt} {f C : Addr} {fd : FuncData} {N ps : List Str} {k n : Nat} (hc : ClsAt K c C) (cl : L2.Cls K C) (M : Meth K C m f) (F : L2.Fun K m qual st f fd) (hb : Binds K fd ps []) (sc : FnScope N ps (defScope st)) (hn : ps.length = n + 1) :
    CalM P w K mg base c m (k + 1) n fBad :=
  ⟨C, f, fd, ps, hc, cl, M, F.okX sc (spF_len hn) (fun cdv A outer s H vs Q E hr h => by
    obtain ⟨_, _, _, _, _, z⟩ := h
    exact z.elim), hb⟩
end
end PVL

/-! P13: the fields of a caught exception, in what a suite returns. -/
namespace PVL
open PySem PySem.Spec L2
/-- reading while the exception is held: i its slot, a its place -/
def ImX (K : PySem.W.Frag) (mg : Str → Option Value) (i : Nat) (x : PX) (a : Addr) (cls : Value) (d : Option Addr) (t : TE) (m : RM) : Prop := ∀ σ H Q env F, RE K H env σ F → σ[i]? = some (some (.ref a)) → RX K mg x cls d H →
  (match m env with | some pv => ∀ v H' Fv, Sm H H' → RV K H' pv v Fv → Q v H' | none => False) → t σ H Q
def ImXA (K : PySem.W.Frag) (mg : Str → Option Value) (i : Nat) (x : PX) (a : Addr) (cls : Value) (d : Option Addr) (t : TA) (m : PEnv → Option (List PV)) : Prop := ∀ σ H Q env F, RE K H env σ F → σ[i]? = some (some (.ref a)) → RX K mg x cls d H →
  (match m env with | some ps => ∀ vs H' , Sm H H' → RB K H' ps vs → Q vs H' | none => False) → t σ H Q
theorem RX.sm {K : PySem.W.Frag} {mg : Str → Option Value} {x : PX} {cls : Value} {d : Option Addr} {H H' : Hp} (h : RX K mg x cls d H) (s : Sm H H') : RX K mg x cls d H' := by
  refine ⟨h.1, h.2.imp id ?_⟩
  rintro ⟨dd, vs, e, e1, hf⟩
  exact ⟨dd, vs, e, s _ _ e1, hf.keep fun b o q _ => s b o q⟩
section
variable {K : PySem.W.Frag} {mg : Str → Option Value} {i : Nat} {x : PX} {a0 : Addr} {cls : Value} {d : Option Addr}
theorem imx_r {t : TE} {m : RM} (h : ImR K t m) : ImX K mg i x a0 cls d t m := fun σ H Q env F hr _ _ hp => h σ H Q env F hr hp
theorem imx_op {r : R2} {f : PV → PV → Option PV} {ta tb : TE} {a b : RM} (hs : SimB2 K r f) (ha : ImX K mg i x a0 cls d ta a) (hb : ImX K mg i x a0 cls d tb b) : ImX K mg i x a0 cls d (tOp r ta tb) (rOp f a b) := by
  intro σ H Q env F hr hi hx hp
  unfold rOp at hp
  refine ha σ H _ env F hr hi hx ?_
  cases ea : a env with
  | none => rw [ea] at hp; exact hp
  | some x =>
    rw [ea] at hp
    intro v H1 Fv s1 rx
    refine hb σ H1 _ env F (hr.sm s1) hi (hx.sm s1) ?_
    cases eb : b env with
    | none => rw [eb] at hp; exact hp
    | some y =>
      rw [eb] at hp
      intro u H2 Fu s2 ry
      refine hs v u H2 Q x y Fv Fu (rx.sm s2) ry ?_
      cases ef : f x y with
      | none => simp only [Option.bind_some, ef] at hp
      | some z =>
        simp only [Option.bind_some, ef] at hp
        exact fun w' H3 Fw s3 rw' => hp w' H3 Fw ((s1.trans s2).trans s3) rw'
theorem imx_nil : ImXA K mg i x a0 cls d tNil raNil := fun σ H Q env F hr _ _ hp => hp [] H (fun _ _ z => z) rfl
theorem imx_cons {ta : TE} {tA : TA} {r : RM} {a : PEnv → Option (List PV)} (h : ImX K mg i x a0 cls d ta r) (g : ImXA K mg i x a0 cls d tA a) : ImXA K mg i x a0 cls d (tCons ta tA) (raCons r a) := by
  intro σ H Q env F hr hi hx hp
  unfold raCons at hp
  refine h σ H _ env F hr hi hx ?_
  cases er : r env with
  | none => rw [er] at hp; exact hp
  | some x =>
    rw [er] at hp
    intro v H1 Fv s1 rx
    refine g σ H1 _ env F (hr.sm s1) hi (hx.sm s1) ?_
    cases ea : a env with
    | none => rw [ea] at hp; exact hp
    | some xs =>
      rw [ea] at hp
      intro vs H2 s2 rb
      exact hp (v :: vs) H2 (s1.trans s2) ⟨v, vs, Fv, rfl, rx.sm s2, rb⟩
theorem imx_cl {r : List V → Hp → VK → Prop} {f : List PV → Option PV} {ta : TA} {a : PEnv → Option (List PV)} (hs : SimL K r f) (ha : ImXA K mg i x a0 cls d ta a) : ImX K mg i x a0 cls d (fun σ H Q => ta σ H fun vs H1 => r vs H1 Q) (rCl f a) := by
  intro σ H Q env F hr hi hx hp
  unfold rCl at hp
  refine ha σ H _ env F hr hi hx ?_
  cases ea : a env with
  | none => rw [ea] at hp; exact hp
  | some ps =>
    rw [ea] at hp
    intro vs H1 s1 rb
    refine hs vs H1 Q ps rb ?_
    cases ef : f ps with
    | none => rw [Option.bind_some, ef] at hp; exact hp.elim
    | some z =>
      rw [Option.bind_some, ef] at hp
      exact fun v H2 Fz s r _ _ => hp v H2 Fz (s1.trans s) r
/-- a tuple of immutable parts -/
def rTup (a : PEnv → Option (List PV)) : RM := fun env => (a env).bind fun xs => if immL xs = true ∧ xs.length ≤ sizeLine then some (.tup xs) else none
theorem rb_rvl {H : Hp} : ∀ {ps : List PV} {vs : List V}, RB K H ps vs → immL ps = true → RVL K H ps vs []
  | [], _, h, _ => by simp only [RB] at h; subst h; simp [RVL]
  | p :: ps, _, h, i => by
    simp only [RB] at h
    obtain ⟨v, vr, F, rfl, h1, h2⟩ := h
    simp only [immL, Bool.and_eq_true] at i
    have := RV.imm i.1 h1
    subst this
    simp only [RVL]
    exact ⟨v, vr, [], [], rfl, h1, rb_rvl h2 i.2, rfl⟩
theorem imx_tup {ta : TA} {a : PEnv → Option (List PV)} (ha : ImXA K mg i x a0 cls d ta a) : ImX K mg i x a0 cls d (tTup ta) (rTup a) := by
  intro σ H Q env F hr hi hx hp
  unfold rTup at hp
  refine ha σ H _ env F hr hi hx ?_
  cases ea : a env with
  | none => rw [ea] at hp; exact hp
  | some ps =>
    rw [ea, Option.bind_some] at hp
    by_cases hz : immL ps = true ∧ ps.length ≤ sizeLine
    · rw [if_pos hz] at hp
      intro vs H1 s1 rb
      have rl := rb_rvl rb hz.1
      refine ⟨by rw [rl.length]; exact hz.2, fun p np => ?_⟩
      have s2 : Sm H1 (upd H1 p (.tup vs)) := sm_upd np
      refine hp _ _ [] (s1.trans s2) ?_
      simp only [RV]
      exact ⟨p, vs, rfl, SqT.of upd_same, rl.sm s2⟩
    · rw [if_neg hz] at hp; exact hp.elim
/-- and, or upon truth values -/
def rAnd (a b : RM) : RM := fun env => match a env with
  | some (.bl true) => b env
  | some (.bl false) => some (.bl false)
  | _ => none
def rOr (a b : RM) : RM := fun env => match a env with
  | some (.bl false) => b env
  | some (.bl true) => some (.bl true)
  | _ => none
/-- e.f -/
def rXf (x : PX) (c f : Str) : RM := fun _ => if x.cls = c then x.fs.lookup f else none
def tXfC (a : Addr) (cls : Value) (d : Option Addr) (mg : Str → Option Value) (c f : Str) (te : TE) : TE := fun σ H Q => ∀ C, mg c = some (.ref C) → tXf a cls d C f te σ H Q
theorem imx_fld {c f : Str} : ImX K mg i x a0 cls d (tXfC a0 cls d mg c f (tVar i)) (rXf x c f) := by
  intro σ H Q env F hr hi hx hp C hC
  refine ⟨.ref a0, hi, rfl, ?_⟩
  unfold rXf at hp
  by_cases e : x.cls = c
  · rw [if_pos e] at hp
    have h1 := hx.1
    rw [e, hC] at h1
    cases h1
    rcases hx.2 with z | ⟨dd, vs, rfl, e1, hf⟩
    · rw [z] at hp; exact hp.elim
    · cases el : x.fs.lookup f with
      | none => rw [el] at hp; exact hp.elim
      | some y =>
        rw [el] at hp
        obtain ⟨v, F1, l, r⟩ := hf.lookup el
        exact ⟨rfl, dd, vs, v, rfl, e1, l, hp v H F1 (fun _ _ z => z) r⟩
  · rw [if_neg e] at hp; exact hp.elim
end
/-- an expression of a suite that may read the exception's fields -/
structure JX (X : Cx) (i : Nat) (a : Addr) (oe : Obj) (cls : Value) (d : Option Addr) (e : Expr) (t : TE) (m : PX → RM) : Prop where
  pe : Zc cls d oe → (∃ vs, oe.data = .fields vs) → PE X e t
  im : ∀ x, ImX X.K X.mg i x a cls d t (m x)
structure JXA (X : Cx) (i : Nat) (a : Addr) (oe : Obj) (cls : Value) (d : Option Addr) (es : List Expr) (t : TA) (m : PX → PEnv → Option (List PV)) : Prop where
  pa : Zc cls d oe → (∃ vs, oe.data = .fields vs) → PA X es t
  im : ∀ x, ImXA X.K X.mg i x a cls d t (m x)
section
variable {X : Cx} {i : Nat} {a : Addr} {oe : Obj} {cls : Value} {d : Option Addr} {e e1 e2 : Expr} {es : List Expr} {te ta tb : TE} {tA : TA} {m m1 m2 : PX → RM} {r : RM} {am : PX → PEnv → Option (List PV)} {pos p : Pos}
theorem jx_r (h : JR X e te r) : JX X i a oe cls d e te (fun _ => r) := ⟨fun _ _ => h.pe, fun _ => imx_r h.im⟩
theorem jxa_nil : JXA X i a oe cls d [] tNil (fun _ => raNil) := ⟨fun _ _ => pa_nil, fun _ => imx_nil⟩
theorem jxa_cons (h : JX X i a oe cls d e te m) (g : JXA X i a oe cls d es tA am) (hs : starEach (e :: es) X.env = (false, eval e X.env) :: starEach es X.env := by rfl) : JXA X i a oe cls d (e :: es) (tCons te tA) (fun x => raCons (m x) (am x)) := ⟨fun z f => pa_cons (h.pe z f) (g.pa z f) hs, fun x => imx_cons (h.im x) (g.im x)⟩
theorem jx_tup {x1} (h : JXA X i a oe cls d es tA am) : JX X i a oe cls d (.Tuple es x1 pos) (tTup tA) (fun x => rTup (am x)) := ⟨fun z f => pe_tup (h.pa z f), fun x => imx_tup (h.im x)⟩
theorem jx_op {op : Operator} {r : R2} {f : PV → PV → Option PV} (hs : SimR2 X.K r f) (ho : OpR X (binaryOp op) r) (ha : JX X i a oe cls d e1 ta m1) (hb : JX X i a oe cls d e2 tb m2) : JX X i a oe cls d (.BinOp e1 op e2 pos) (tOp r ta tb) (fun x => rOp f (m1 x) (m2 x)) := ⟨fun z g => pe_op ho (ha.pe z g) (hb.pe z g), fun x => imx_op hs.b (ha.im x) (hb.im x)⟩
theorem jx_cmp {op : CmpOp} {r : R2} {f : PV → PV → Option PV} (hs : SimR2 X.K r f) (ho : OpR X (compareOp op) r) (hm : behindInMarks op e2 = false) (ha : JX X i a oe cls d e1 ta m1) (hb : JX X i a oe cls d e2 tb m2) : JX X i a oe cls d (.Compare e1 [op] [e2] pos) (tOp r ta tb) (fun x => rOp f (m1 x) (m2 x)) := ⟨fun z g => pe_cmpR ho (ha.pe z g) (hb.pe z g) hm, fun x => imx_op hs.b (ha.im x) (hb.im x)⟩
theorem jx_callB {x : Str} {p : Pos} {id : String} {r : List V → Hp → VK → Prop} {f : List PV → Option PV} (hs : SimL X.K r f) (hc : CallR X (.builtin id) r) (hv : bootBuiltins x = some (.builtin id)) (hm : X.mg x = none) (ha : JXA X i a oe cls d (e :: es) tA am) (hg : Gl X x := by rfl) (hn : x ≠ "__name__" := by decide) (hdb : (x == ("__debug__" : Str)) = false := by decide)
    (he : starEach (e :: es) X.env = (false, eval e X.env) :: starEach es X.env := by rfl) (hpl : (backTo pos (starEach es X.env)).any (·.1) = false := by rfl) : JX X i a oe cls d (.Call (.Name x p) (e :: es) [] pos) (tCB r tA) (fun x => rCl f (am x)) := ⟨fun z g => pe_callB hc hg hm hv (ha.pa z g) hn hdb he hpl, fun x => imx_cl hs (ha.im x)⟩
/-- e.f of the caught exception, of the class c -/
theorem jx_fld {pn : List (Addr × Obj)} {c f n : Str} {C : Addr} (T : XfC X.K C) (hno : PySem.W.findIn X.K (.ref C) f = some none) (hC : X.mg c = some (.ref C)) (ho : PE (X.suite a ((a, oe) :: pn)) (.Name n p) (tVar i))
    (hb : attributeBase (.Name n p) f X.env (eval (.Name n p) X.env) = eval (.Name n p) X.env := by rfl) :
    JX (X.suite a ((a, oe) :: pn)) i a oe cls d (.Attribute (.Name n p) f pos) (tXfC a cls d X.mg c f (tVar i)) (fun x => rXf x c f) :=
  ⟨fun hz hf => ⟨fun pins s σ H Q I h => (pe_xf T hno hz hf ho hb).run pins s σ H Q I (h C hC)⟩, fun x => imx_fld⟩
/-- except X as n: return e -/
theorem jh_asX {S : List Nat} {x n : Str} (i : Nat) {c : Value} {tab : List (Str × Bool)} {te : Addr → Value → Option Addr → TE} {m : PX → RM} {e : Expr} {rp np pos' : Pos} {hds : List ExceptHandler} {l : List Cl} {p : List PCl} (hc : Names X x c) (ht : TabOk X.K X.mg c tab)
    (hsu : ∀ (a : Addr) (oe : Obj) (cls : Value) (d : Option Addr) (pn : List (Addr × Obj)), JX (X.suite a ((a, oe) :: pn)) i a oe cls d e (te a cls d) m) (hiS : i ∈ S) (r : JHd X S hds l p)
    (hN : X.N.Nodup) (hi : X.N[i]? = some n := by rfl) (hln : X.env.kindOf n = some .local := by rfl) :
    JHd X S (.ExceptHandler (some (.Name x np)) (some n) [.Return (some e) rp] pos' :: hds) ((c, some i, fun a cls d => tRet (te a cls d)) :: l) ((tab, some i, fun x => sRet (eN (fun env => immO (m x env)))) :: p) := by
  refine ⟨.as hc hN hi hln (fun a oe cls d pn hz hf => pss_one (ps_ret ((hsu a oe cls d pn).pe hz hf))) r.hd, .cons ht (fun j z => by cases z; exact hiS) (fun x a cls d => ?_) r.im⟩
  intro D σ H env F hr hn hj hx hp
  refine (hsu a default cls d []).im x σ H _ env F hr (hj i rfl) hx ?_
  have hp2 : PostS X.K X.mg (fun _ _ _ _ => False) S D σ H F ((ofO (immO (m x env)) env).toS fun x e => SO.ret x e) := hp
  cases em : m x env with
  | none => rw [em] at hp2; exact hp2.elim
  | some z =>
    rw [em] at hp2
    simp only [immO] at hp2
    by_cases hz : z.imm = true
    · rw [if_pos hz] at hp2
      intro v H' Fv s rv
      have := RV.imm hz rv
      subst this
      exact hp2 v σ H' [] F (hr.sm s) rv (by simpa using hn) (Fm.of_sm s fun b zz => .inl (by simpa using zz)) Ag.refl
    · rw [if_neg hz] at hp2; exact hp2.elim
end
end PVL

/-! P14: truth of any value. -/
namespace PVL
open PySem PySem.Spec L2
def pTru : PV → Option Bool
  | .non => some false
  | .bl b => some b
  | .int i => some (i != 0)
  | .str y => if y.length ≤ sizeLine then some ((y.length : Int) != 0) else none
  | .tup xs => some (!xs.isEmpty)
  | .frz xs => some (!xs.isEmpty)
  | .lst xs => some (!xs.isEmpty)
  | _ => none
theorem RVL.isEmpty {K : PySem.W.Frag} {H : Hp} {xs : List PV} {vs : List V} {F : List Addr} (h : RVL K H xs vs F) : vs.isEmpty = xs.isEmpty := by
  cases xs with
  | nil => simp only [RVL] at h; rw [h.1]; rfl
  | cons x xs => simp only [RVL] at h; obtain ⟨v, vr, _, _, rfl, _⟩ := h; rfl
theorem tru_p {K : PySem.W.Frag} {H : Hp} {x : PV} {v : V} {F : List Addr} {b : Bool} (h : RV K H x v F) (e : pTru x = some b) : TruV K v H b := by
  cases x with
  | non => simp only [RV] at h; cases h.1; simp only [pTru, Option.some.injEq] at e; exact e.symm
  | bl _ => simp only [RV] at h; cases h.1; simp only [pTru, Option.some.injEq] at e; exact e.symm
  | int _ => simp only [RV] at h; cases h.1; simp only [pTru, Option.some.injEq] at e; exact e.symm
  | str y =>
    simp only [RV] at h; cases h.1
    simp only [pTru] at e
    by_cases hz : y.length ≤ sizeLine
    · rw [if_pos hz] at e; cases e; exact ⟨hz, rfl⟩
    · rw [if_neg hz] at e; cases e
  | tup xs =>
    simp only [RV] at h
    obtain ⟨a, vs, rfl, q, hl⟩ := h
    simp only [pTru, Option.some.injEq] at e
    exact .inr (.inl ⟨vs, q, by rw [← e, hl.isEmpty]⟩)
  | frz xs =>
    simp only [RV] at h
    obtain ⟨a, vs, rfl, q, hl, _⟩ := h
    simp only [pTru, Option.some.injEq] at e
    exact .inl ⟨vs, q.toL, by rw [← e, hl.isEmpty]⟩
  | lst xs =>
    simp only [RV] at h
    obtain ⟨a, vs, F', rfl, q, hl, _⟩ := h
    simp only [pTru, Option.some.injEq] at e
    exact .inl ⟨vs, SqL.of q, by rw [← e, hl.isEmpty]⟩
  | dct _ => simp [pTru] at e
  | obj _ _ => simp [pTru] at e
  | ty _ => simp [pTru] at e
def bTru (m : RM) : BM := fun env => match (m env).bind pTru with
  | some b => .ok b env
  | none => .bad
theorem im_bTru {K : PySem.W.Frag} {mg : Str → Option Value} {W : WX} {t : TE} {m : RM} (h : ImR K t m) : ImT K mg W (fun σ H Q => t σ H fun x H' => ∃ k, TruV K x H' k ∧ Q k H') (bTru m) := by
  intro σ H Q env F hr hn hp
  refine h σ H _ env F hr ?_
  unfold bTru at hp
  cases em : m env with
  | none => rw [em] at hp; exact hp.elim
  | some x =>
    rw [em, Option.bind_some] at hp
    intro v H' Fv s rv
    cases et : pTru x with
    | none => rw [et] at hp; exact hp.elim
    | some b =>
      rw [et] at hp
      exact ⟨b, tru_p rv et, hp H' F (hr.sm s) hn (Fm.of_sm s fun _ z => .inl z)⟩
def tTru (K : PySem.W.Frag) (t : TE) : TT := fun σ H Q => t σ H fun x H' => ∃ k, TruV K x H' k ∧ Q k H'
theorem jt_tru (K : PySem.W.Frag) {X : Cx} {W : WX} {e : Expr} {t : TE} {m : RM} (h : JR X e t m) (hK : X.K = K := by rfl) (he : ∀ whole, isTrue e X.env whole = (do let v ← whole; standAt e.pos; holding [v] (truthy v)) := by intro _; rfl) : JT X W e (tTru K t) (bTru m) := by
  subst hK
  exact ⟨pt_truth h.pe he, im_bTru h.im⟩
end PVL

/-! P15: walks of texts. -/
namespace PVL
open PySem PySem.Spec L2
def chrs (z : Str) : List PV := z.cps.toList.map fun c => .str ⟨#[c]⟩
/-- for .. in e, e a text -/
def itC (m : EM) : PEnv → EO (List PV) := fun env => (m env).bind fun x e => match x with
  | .str z => .ok (chrs z) e
  | _ => .bad
section
variable {K : PySem.W.Frag} {mg : Str → Option Value} {W : WX}
theorem im_itC {te : TE} {m : EM} (h : ImE K mg W te m) : ImI K mg W (iStr te) (itC m) := by
  intro σ H R env F hr hn hp
  refine h σ H _ env F hr hn (hp.bind.imp fun x e1 q1 v H1 Fv F1 hr1 hx hn1 hf1 => ?_)
  cases x with
  | str z =>
    simp only [RV] at hx
    obtain ⟨rfl, rfl⟩ := hx
    refine ⟨z, rfl, q1 _ H1 [] F1 hr1 hn1 hf1 ⟨fun _ => True, fun i H v H' => H' = H ∧ ∃ c, z.cps[i]? = some c ∧ v = .str ⟨#[c]⟩, ?_, True.intro, fun _ _ _ _ => True.intro, fun b zz => by simp at zz, ?_⟩⟩
    · have : (chrs z).length = z.cps.size := by unfold chrs; simp
      rw [this]; exact walk_str
    · rintro i H3 x H4 _ ⟨rfl, c, hc, rfl⟩
      refine ⟨fun _ _ e => e, fun p ep => ?_⟩
      unfold chrs at ep
      rw [List.getElem?_map, Array.getElem?_toList, hc] at ep
      simp only [Option.map_some, Option.some.injEq] at ep
      subst ep
      simp [RV]
  | _ => exact q1.elim
end
section
variable {X : Cx} {W : WX} {e tg : Expr} {te : TE} {m : EM}
theorem ji_c (h : JE X W e te m) : JI X W tg e (iStr te) (itC m) := ⟨pi_str h.pe, im_itC h.im⟩
end
end PVL

/-! M3: equations of the newer combinators; the common functions by their names in C1. -/
namespace PVL
open PySem PySem.Spec L2
theorem c_draw : m__law_draw = mDraw := rfl
theorem c_isint : m__law_is_int = mIsInt := rfl
theorem c_begin : m__law_begin = mBegin := rfl
theorem c_pick : m__law_pick = mPick := rfl
theorem c_rare : m__law_rare = mRare := rfl
theorem c_same : ∀ n, m__law_same n = mSame n
  | 0 => rfl
  | n + 1 => by
    show fnM 2 3 [] (b_m__law_same n (m__law_same n)) = _
    rw [c_same n]
    rfl
@[simp] theorem rChain_ap (f g : PV → PV → Option PV) (a b c : RM) (env : PEnv) : rChain f g a b c env = (a env).bind fun x => (b env).bind fun y => match f x y with
  | some (.bl true) => (c env).bind fun z => g y z
  | some (.bl false) => some (.bl false)
  | _ => none := rfl
@[simp] theorem eSM0_ap (f : Str → Option PV) (m : EM) (env : PEnv) : eSM0 f m env = (m env).bind fun x e => match x with
  | .str z => ofO (f z) e
  | _ => .bad := rfl
@[simp] theorem eSM1_ap (f : Str → PV → Option PV) (m : EM) (g : GM) (env : PEnv) : eSM1 f m g env = (m env).bind fun x e1 => match x with
  | .str z => (g e1).bind fun y e2 => ofO ((seeG e2 y).bind fun p => f z p) e2
  | _ => .bad := rfl
@[simp] theorem pStr_i (i : Int) : pStr [.int i] = if i.natAbs.log2 < 1920 then some (.str (toString i)) else none := rfl
@[simp] theorem pStr_s (a : Str) : pStr [.str a] = some (.str a) := rfl
@[simp] theorem pExtend_l (x y : List PV) : pExtend (.lst x) [.lst y] = if x.length + y.length ≤ sizeLine ∧ immL y = true then some (.non, .lst (x ++ y)) else none := rfl
theorem draw_c (d : Dr) (n : Int) (h1 : 0 < n) (h2 : n < 1073741824) : ∃ (r : Int) (d' : Dr), m__law_draw [d.pv, .int n] = .ok (.int r) [some d'.pv, some (.int n)] ∧ 0 ≤ r ∧ r < n := draw_ok d n h1 h2
theorem pick_lc (d : Dr) (xs : List PV) (h : 0 < xs.length) (h2 : xs.length < 1073741824) (hi : immL xs = true) : ∃ (i : Nat) (hl : i < xs.length) (d' : Dr), m__law_pick [d.pv, .lst xs] = .ok xs[i] [some d'.pv, some (.lst xs)] := pick_l d xs h h2 hi
theorem pick_tc (d : Dr) (xs : List PV) (h : 0 < xs.length) (h2 : xs.length < 1073741824) (hi : immL xs = true) : ∃ (i : Nat) (hl : i < xs.length) (d' : Dr), m__law_pick [d.pv, .tup xs] = .ok xs[i] [some d'.pv, some (.tup xs)] := pick_t d xs h h2 hi
theorem rare_c (d : Dr) (n : Int) (h1 : 0 < n) (h2 : n < 1073741824) : ∃ (b : Bool) (d' : Dr), m__law_rare [d.pv, .int n] = .ok (.bl b) [some d'.pv, some (.int n)] := rare_ok d n h1 h2
theorem begin_c (ns : List Int) : ∃ d : Dr, m__law_begin [.frz (ns.map .int)] = .ok d.pv [some (.frz (ns.map .int))] := begin_ok ns
theorem same_c (n : Nat) (x : PV) (h : PVL.plain n x = true) : m__law_same n [x, x] = .ok (.bl true) [some x, some x] := by rw [c_same]; exact same_ok n x h
/-- a list of the imm values that is drawn from: what comes is one of them -/
theorem pick_mem (d : Dr) (xs : List PV) (h : 0 < xs.length) (h2 : xs.length < 1073741824) (hi : immL xs = true) : ∃ (x : PV) (d' : Dr), x ∈ xs ∧ m__law_pick [d.pv, .lst xs] = .ok x [some d'.pv, some (.lst xs)] := by
  obtain ⟨i, hl, d', e⟩ := pick_lc d xs h h2 hi
  exact ⟨_, d', List.getElem_mem hl, e⟩
theorem pop_ok (d : Dr) (xs : List PV) (h : 0 < xs.length) (h2 : xs.length < 1073741824) (hi : immL xs = true) : ∃ (i : Nat) (hl : i < xs.length) (d' : Dr), m__law_pop [d.pv, .lst xs] = .ok xs[i] [some d'.pv, some (.lst (xs.eraseIdx i))] := by
  obtain ⟨r, d', e, r0, r1⟩ := draw_c d xs.length (by omega) (by omega)
  have hl : r.toNat < xs.length := by omega
  refine ⟨r.toNat, hl, d', ?_⟩
  have hs : seqIndex? r xs.length = some r.toNat := by
    unfold seqIndex?
    have h1 : ¬ r < 0 := by omega
    simp only [if_neg h1]
    simp [r0, r1]
  have hp : pPopAt (.lst xs) [.int r] = some (xs[r.toNat], .lst (xs.eraseIdx r.toNat)) := by
    unfold pPopAt
    have : r.natAbs < 2 ^ 63 := by omega
    simp only [this, hi, and_self, if_true, hs]
    simp [hl]
  unfold m__law_pop
  rw [fnM_at rfl]
  simp [b_m__law_pop, e, hp]
/-! texts -/
theorem pSplit_s (z b : Str) : pSplit z (.str b) = if (b.length == 0) = false ∧ z.length + 2 ≤ sizeLine then some (.lst ((Txt.split z b).map .str)) else none := rfl
theorem pJoin_l (z : Str) (xs : List PV) : pJoin z (.lst xs) = (strsOf xs).bind fun ys => if (ys.map (·.length)).sum + ys.length * z.length ≤ 16777216 then some (.str (Txt.join z ys)) else none := rfl
theorem strs_map (zs : List Str) : immL (zs.map PV.str) = true := immL_map _ _ fun _ _ => rfl
def wordsL : List Str := Txt.split ("format base version mark num in size count gap sum roll over by of to pad free rest part maybe many " ++ "pick case grow since nest inner") " "
def plainL : List Str := Txt.split ((("never end any cell keep tell fork jump round check within put bump up down add less turn seen none plain " ++ "sheet watcher least one two body files kind inside turns new value cells file name tree item block ") ++ "text length then else if while for do let set get at from is not and or as with all each repeat ") ++ "times bytes word char list map header data flags crc big n s c p0 k0 c0") " "
theorem wordsL_n : 0 < wordsL.length ∧ wordsL.length < 1000 ∧ ∀ z ∈ wordsL, z.length ≤ 20 := by decide +kernel
theorem plainL_n : 0 < plainL.length ∧ plainL.length < 1000 ∧ ∀ z ∈ plainL, z.length ≤ 20 := by decide +kernel
theorem words_ok : m__law_words [] = .ok (.lst (wordsL.map .str)) [] := by
  unfold m__law_words
  rw [fnM_at rfl]
  have h1 : pAdd (.str "format base version mark num in size count gap sum roll over by of to pad free rest part maybe many ") (.str "pick case grow since nest inner") = some (.str ("format base version mark num in size count gap sum roll over by of to pad free rest part maybe many " ++ "pick case grow since nest inner")) := by
    rw [pAdd_s, if_pos (by decide +kernel)]
  have h2 : pSplit ("format base version mark num in size count gap sum roll over by of to pad free rest part maybe many " ++ "pick case grow since nest inner") (.str " ") = some (.lst (wordsL.map .str)) := by
    rw [pSplit_s, if_pos (by decide +kernel)]
    rfl
  simp [b_m__law_words, h1, h2, -pAdd_s]
theorem plain_words_ok : m__law_plain_words [] = .ok (.lst (plainL.map .str)) [] := by
  unfold m__law_plain_words
  rw [fnM_at rfl]
  generalize hA : ("never end any cell keep tell fork jump round check within put bump up down add less turn seen none plain " : Str) = A
  generalize hB : ("sheet watcher least one two body files kind inside turns new value cells file name tree item block " : Str) = B
  generalize hC : ("text length then else if while for do let set get at from is not and or as with all each repeat " : Str) = C
  generalize hD : ("times bytes word char list map header data flags crc big n s c p0 k0 c0" : Str) = D
  have l1 : A.length + B.length ≤ sizeLine := by subst hA; subst hB; decide +kernel
  have l2 : (A ++ B).length + C.length ≤ sizeLine := by subst hA; subst hB; subst hC; decide +kernel
  have l3 : ((A ++ B) ++ C).length + D.length ≤ sizeLine := by subst hA; subst hB; subst hC; subst hD; decide +kernel
  have h2 : pSplit (((A ++ B) ++ C) ++ D) (.str " ") = some (.lst (plainL.map .str)) := by
    rw [pSplit_s, if_pos (by subst hA; subst hB; subst hC; subst hD; decide +kernel)]
    subst hA; subst hB; subst hC; subst hD
    rfl
  simp only [b_m__law_plain_words, hA, hB, hC, hD]
  simp [l1, l2, l3, h2]
def kindsS (room : Int) : Str := ((if 1 < room then (if 0 < room then ("mark num size count gap " : Str) ++ "part maybe many grow since nest " else "mark num size count gap ") ++ "pick " else (if 0 < room then ("mark num size count gap " : Str) ++ "part maybe many grow since nest " else "mark num size count gap ")) ++ "sum roll pad free rest inner")
def shortL : List Str := ["mark", "num", "size", "count", "gap", "sum", "roll", "pad", "free", "rest", "inner"]
def kinds0 : List Str := ["mark", "num", "size", "count", "gap", "sum", "roll", "pad", "free", "rest", "inner"]
def kinds1 : List Str := ["mark", "num", "size", "count", "gap", "part", "maybe", "many", "grow", "since", "nest", "sum", "roll", "pad", "free", "rest", "inner"]
def kinds2 : List Str := ["mark", "num", "size", "count", "gap", "part", "maybe", "many", "grow", "since", "nest", "pick", "sum", "roll", "pad", "free", "rest", "inner"]
def kindsL (room : Int) : List Str := if 1 < room then kinds2 else if 0 < room then kinds1 else kinds0
theorem kinds_ok (room : Int) : m__law_kinds [.int room] = .ok (.lst ((kindsL room).map .str)) [some (.int room)] := by
  unfold m__law_kinds
  rw [fnM_at rfl]
  generalize hA : ("mark num size count gap " : Str) = A
  generalize hB : ("part maybe many grow since nest " : Str) = B
  generalize hC : ("pick " : Str) = C
  generalize hD : ("sum roll pad free rest inner" : Str) = D
  have l1 : A.length + B.length ≤ sizeLine := by subst hA; subst hB; decide +kernel
  have l2 : (A ++ B).length + C.length ≤ sizeLine := by subst hA; subst hB; subst hC; decide +kernel
  have l3 : ((A ++ B) ++ C).length + D.length ≤ sizeLine := by subst hA; subst hB; subst hC; subst hD; decide +kernel
  have l4 : (A ++ B).length + D.length ≤ sizeLine := by subst hA; subst hB; subst hD; decide +kernel
  have l5 : A.length + D.length ≤ sizeLine := by subst hA; subst hD; decide +kernel
  have s2 : pSplit (((A ++ B) ++ C) ++ D) (.str " ") = some (.lst (kinds2.map .str)) := by
    subst hA; subst hB; subst hC; subst hD
    rw [pSplit_s, if_pos (by decide +kernel)]
    have : Txt.split (((("mark num size count gap " : Str) ++ "part maybe many grow since nest ") ++ "pick ") ++ "sum roll pad free rest inner") " " = kinds2 := by decide +kernel
    rw [this]
  have s1 : pSplit ((A ++ B) ++ D) (.str " ") = some (.lst (kinds1.map .str)) := by
    subst hA; subst hB; subst hD
    rw [pSplit_s, if_pos (by decide +kernel)]
    have : Txt.split ((("mark num size count gap " : Str) ++ "part maybe many grow since nest ") ++ "sum roll pad free rest inner") " " = kinds1 := by decide +kernel
    rw [this]
  have s0 : pSplit (A ++ D) (.str " ") = some (.lst (kinds0.map .str)) := by
    subst hA; subst hD
    rw [pSplit_s, if_pos (by decide +kernel)]
    have : Txt.split (("mark num size count gap " : Str) ++ "sum roll pad free rest inner") " " = kinds0 := by decide +kernel
    rw [this]
  simp only [b_m__law_kinds, hA, hB, hC, hD]
  by_cases h1 : 1 < room
  · have h0 : 0 < room := by omega
    simp [h0, h1, l1, l2, l3, s2, kindsL]
  · by_cases h0 : 0 < room
    · simp [h0, h1, l1, l4, s1, kindsL]
    · simp [h0, h1, l5, s0, kindsL]
end PVL

/-! M4: equations of the combinators for objects, truth, texts. -/
namespace PVL
open PySem PySem.Spec L2
def objOk (c m : Str) : PV → Bool
  | .obj c' fs => decide (c' = c ∧ fs.lookup m = none)
  | _ => false
@[simp] theorem eMCall_ap (c m : Str) (i : Nat) (fm : FM) (am : AM) (env : PEnv) : eMCall c m i fm am env = match env[i]? with
    | some (some p) => if objOk c m p = true then eCall fm (aCons (gRef i) am) env else .bad
    | _ => .bad := by
  unfold eMCall
  cases env[i]? with
  | none => rfl
  | some o =>
    cases o with
    | none => rfl
    | some p => cases p <;> simp only [objOk, decide_eq_true_eq] <;> rfl
def fldP (c f : Str) : PV → Option PV
  | .obj c' fs => if c' = c then fs.lookup f else none
  | _ => none
@[simp] theorem rFld_ap (c f : Str) (r : RM) (env : PEnv) : rFld c f r env = (r env).bind (fldP c f) := by
  unfold rFld
  cases r env with
  | none => rfl
  | some p => cases p <;> rfl
def fldS (c f : Str) (v : PV) : PV → Option PV
  | .obj c' fs => if c' = c ∧ fs.length < 1000 then some (PV.obj c (putP f v fs)) else none
  | _ => none
@[simp] theorem sFldSet_ap (i : Nat) (c f : Str) (m : EM) (env : PEnv) : sFldSet i c f m env = (m env).toS fun v e => match e[i]? with
    | some (some p) => (match fldS c f v p with
      | some p' => .next (e.set i (some p'))
      | none => .bad)
    | _ => .bad := by
  unfold sFldSet
  congr 1
  funext v e
  cases e[i]? with
  | none => rfl
  | some o =>
    cases o with
    | none => rfl
    | some p => cases p <;> rfl
@[simp] theorem sFldAugM_ap (i : Nat) (c f : Str) (g : PV → PV → Option PV) (m : EM) (env : PEnv) : sFldAugM i c f g m env = match env[i]? with
    | some (some p0) => (match fldP c f p0 with
      | some p => if p.imm = true then (m env).toS fun v e => (match g p v with
        | some z => if z.imm = true then (match e[i]? with
          | some (some p1) => (match fldS c f z p1 with
            | some p' => .next (e.set i (some p'))
            | none => .bad)
          | _ => .bad) else .bad
        | none => .bad) else .bad
      | none => .bad)
    | _ => .bad := by
  unfold sFldAugM
  cases env[i]? with
  | none => rfl
  | some o =>
    cases o with
    | none => rfl
    | some p0 =>
      cases p0 with
      | obj c' fs =>
        simp only [fldP]
        by_cases q : c' = c
        · rw [if_pos q, if_pos q]
          cases fs.lookup f with
          | none => rfl
          | some p =>
            simp only
            by_cases hi : p.imm = true
            · rw [if_pos hi, if_pos hi]
              congr 1
              funext v e
              cases g p v with
              | none => rfl
              | some z =>
                simp only
                by_cases hz : z.imm = true
                · rw [if_pos hz, if_pos hz]
                  cases e[i]? with
                  | none => rfl
                  | some o =>
                    cases o with
                    | none => rfl
                    | some p => cases p <;> rfl
                · rw [if_neg hz, if_neg hz]
            · rw [if_neg hi, if_neg hi]
        · rw [if_neg q, if_neg q]
      | _ => rfl
@[simp] theorem eMake_ap (c : Str) (fm : FM) (a : AM) (env : PEnv) : eMake c fm a env = (a env).bind fun as e => match takeA as e with
    | some (ps, e1) => (match fm (.obj c [] :: ps) with
      | .ok .non (some x :: qs) => .ok x (putA as qs e1)
      | .exc x (_ :: qs) => .exc x (putA as qs e1)
      | _ => .bad)
    | none => .bad := rfl
@[simp] theorem bTru_ap (m : RM) (env : PEnv) : bTru m env = match (m env).bind pTru with
    | some b => .ok b env
    | none => .bad := rfl
@[simp] theorem itC_ap (m : EM) (env : PEnv) : itC m env = (m env).bind fun x e => match x with
    | .str z => .ok (chrs z) e
    | _ => .bad := rfl
@[simp] theorem imm_obj (c : Str) (fs : List (Str × PV)) : (PV.obj c fs).imm = false := rfl
@[simp] theorem pAddN_i (a b : Int) : pAddN (.int a) (.int b) = some (.int (a + b)) := rfl
@[simp] theorem pSubN_i (a b : Int) : pSubN (.int a) (.int b) = some (.int (a - b)) := rfl
@[simp] theorem pTru_l (x : List PV) : pTru (.lst x) = some (!x.isEmpty) := rfl
@[simp] theorem pTru_b (b : Bool) : pTru (.bl b) = some b := rfl
@[simp] theorem pTru_i (i : Int) : pTru (.int i) = some (i != 0) := rfl
theorem pInt_s (a : Str) : pInt [.str a] = if a.length ≤ 640 then (PySem.intText? a).map .int else none := rfl
theorem whileL_succ (c : BM) (b : SM) (n : Nat) (env : PEnv) : whileL c b (n + 1) env = (c env).toS fun x e => if x = true then loopK (b e) (whileL c b n) else .next e := by
  rfl
theorem whileL_turn {c : BM} {b : SM} {n : Nat} {env e e2 : PEnv} (hc : c env = .ok true e) (hb : b e = .next e2) : whileL c b (n + 1) env = whileL c b n e2 := by
  rw [whileL_succ, hc]
  show loopK (b e) _ = _
  rw [hb]; rfl
theorem whileL_stop {c : BM} {b : SM} {n : Nat} {env e : PEnv} (hc : c env = .ok false e) : whileL c b (n + 1) env = .next e := by
  rw [whileL_succ, hc]
  rfl
end PVL

/-! P16: list(..) of texts too. -/
namespace PVL
open PySem PySem.Spec L2
def pListP : List PV → Option PV
  | [.str z] => if z.length ≤ 640 then some (.lst (chrs z)) else none
  | ps => pList ps
@[simp] theorem pListP_s (z : Str) : pListP [.str z] = if z.length ≤ 640 then some (.lst (chrs z)) else none := rfl
@[simp] theorem pListP_l (x : List PV) : pListP [.lst x] = if immL x = true then some (.lst x) else none := rfl
@[simp] theorem pListP_f (x : List PV) : pListP [.frz x] = if immL x = true then some (.lst x) else none := rfl
@[simp] theorem pListP_t (x : List PV) : pListP [.tup x] = if immL x = true then some (.lst x) else none := rfl
def vchrs (z : Str) : List V := z.cps.toList.map fun c => .str ⟨#[c]⟩
section
variable {X : Cx}
theorem call_listS (hc : X.calm = true) : CallR X (.type "list") (fun xs H Q => ∃ z, xs = [.str z] ∧ z.length ≤ 640 ∧ ∀ l, H l = none → Q (.ref l) (upd H l (.lst (vchrs z)))) := by
  intro pins s σ H xs us Q I r h
  obtain ⟨z, rfl, hz, q⟩ := h
  obtain ⟨u, rfl, ru⟩ := vals1 r
  obtain ⟨t, rfl⟩ := ru
  have hz' : z.cps.size ≤ sizeLine := Nat.le_trans hz (by decide)
  refine call_list_str (I.ok.hd hc) z t (hn := hz') fun h' tk acc c' hk e hi => ?_
  have hlen : (vchrs z).length = z.cps.size := by unfold vchrs; simp
  refine ⟨.ref s.heap.objs.size, upd H s.heap.objs.size (.lst (vchrs z)), I.laid hk (Nat.le_refl _) ⟨by rw [hlen]; exact hz', acc.toList, c', ?_, by rw [Array.toArray_toList]; exact e⟩, rfl, q _ (I.hok.fresh (Nat.le_refl _))⟩
  refine vals_of_idx _ _ (by rw [hlen, Array.length_toList]; exact hi.1) fun j u hj => ?_
  obtain ⟨c, t', hc, rfl⟩ := hi.2 j u (by rw [← Array.getElem?_toList]; exact hj)
  exact ⟨.str ⟨#[c]⟩, by simp [vchrs, hc], ⟨_, rfl⟩⟩
theorem call_listP (hc : X.calm = true) : CallR X (.type "list") (fun xs H Q => (fun xs H Q => ∃ p ys, xs = [.ref p] ∧ (SqL X.K H p ys ∨ SqT X.K H p ys) ∧ ∀ l, H l = none → Q (.ref l) (upd H l (.lst ys))) xs H Q ∨ (fun xs H Q => ∃ z, xs = [.str z] ∧ z.length ≤ 640 ∧ ∀ l, H l = none → Q (.ref l) (upd H l (.lst (vchrs z)))) xs H Q) := callR_or call_list_of (call_listS hc)
end
section
variable {K : PySem.W.Frag}
theorem rvl_chrsL {H : Hp} (l : List Nat) : RVL K H (l.map fun c => .str ⟨#[c]⟩) (l.map fun c => .str ⟨#[c]⟩) [] := by
  induction l with
  | nil => simp [RVL]
  | cons c r ih =>
    have h1 : RV K H (.str ⟨#[c]⟩) (.str ⟨#[c]⟩) [] := by simp [RV]
    simpa using RVL.cons h1 ih
theorem rvl_chrs {H : Hp} (z : Str) : RVL K H (chrs z) (vchrs z) [] := rvl_chrsL _
theorem sim_listP : SimL K (fun xs H Q => (fun xs H Q => ∃ p ys, xs = [.ref p] ∧ (SqL K H p ys ∨ SqT K H p ys) ∧ ∀ l, H l = none → Q (.ref l) (upd H l (.lst ys))) xs H Q ∨ (fun xs H Q => ∃ z, xs = [.str z] ∧ z.length ≤ 640 ∧ ∀ l, H l = none → Q (.ref l) (upd H l (.lst (vchrs z)))) xs H Q) pListP := by
  intro xs H Q ps h q
  by_cases hp : ∃ z, ps = [.str z]
  · obtain ⟨z, rfl⟩ := hp
    rw [pListP_s] at q
    split at q
    · rename_i hi
      obtain ⟨v, F, rfl, hv⟩ := rb1 h
      refine .inr ⟨z, by rw [rv_str hv], hi, ?_⟩
      exact New.lst q (rvl_chrs z)
    · exact q.elim
  · refine .inl (sim_list xs H Q ps h ?_)
    have : pListP ps = pList ps := by
      unfold pListP
      split
      · exact absurd ⟨_, rfl⟩ hp
      · rfl
    rw [this] at q
    exact q
end
/-! a text times a number -/
def pMulP : PV → PV → Option PV
  | .str z, .int n => if z.length ≤ 100 ∧ 0 ≤ n ∧ n ≤ 100 then some (.str (Txt.mul z n)) else none
  | a, b => pMul a b
abbrev rMulS : V → V → Hp → VK → Prop := fun x y H Q => ∃ z n, x = .str z ∧ y = .int n ∧ z.length ≤ 100 ∧ 0 ≤ n ∧ n ≤ 100 ∧ Q (.str (Txt.mul z n)) H
theorem mulOk_small {z : Str} {n : Int} (hz : z.length ≤ 100) (h0 : 0 ≤ n) (h1 : n ≤ 100) : MulOk z n := by
  refine ⟨?_, ?_, ?_⟩
  · have h2 : ¬ n < -(2 ^ 63 : Int) := by omega
    have h3 : ¬ n ≥ 2 ^ 63 := by omega
    rw [decide_eq_false h2, decide_eq_false h3]; rfl
  · intro h2 _ h3
    have h4 : (2 ^ 63 - 1 : Int) / n ≥ (2 ^ 63 - 1) / 100 := by
      have : (100 : Int) ≤ (2 ^ 63 - 1) / n := by
        rw [Int.le_ediv_iff_mul_le (by omega)]; omega
      exfalso; omega
    omega
  · intro h2 _
    have q : z.length * n.toNat ≤ 100 * 100 := Nat.mul_le_mul hz (by omega)
    have q2 : 100 * 100 < sizeLine := by decide +kernel
    exact decide_eq_false (by omega)
section
variable {X : Cx}
theorem op_mulS : OpR X (binaryOp .Mult) rMulS := by
  intro pins s σ H x y a b Q I rx ry h
  obtain ⟨z, n, rfl, rfl, hz, h0, h1, q⟩ := h
  obtain ⟨t, rfl⟩ := rx
  obtain ⟨t', rfl⟩ := ry
  refine SB.mul (mulOk_small hz h0 h1) fun t' k => ?_
  exact ⟨.str (Txt.mul z n), H, I.tok k, ⟨_, rfl⟩, q⟩
theorem op_mulP : OpR X (binaryOp .Mult) (fun x y H Q => rI CMul (fun i j => .int (i * j)) x y H Q ∨ rMulS x y H Q) := op_mul.or op_mulS
end
@[simp] theorem pMulP_s (z : Str) (n : Int) : pMulP (.str z) (.int n) = if z.length ≤ 100 ∧ 0 ≤ n ∧ n ≤ 100 then some (.str (Txt.mul z n)) else none := rfl
section
variable {K : PySem.W.Frag}
theorem sim_mulP : SimR2 K (fun x y H Q => rI CMul (fun i j => .int (i * j)) x y H Q ∨ rMulS x y H Q) pMulP := by
  intro x y H Q px py Fx Fy hx hy q
  by_cases hp : ∃ z n, px = .str z ∧ py = .int n
  · obtain ⟨z, n, rfl, rfl⟩ := hp
    rw [pMulP_s] at q
    split at q
    · rename_i hz
      exact .inr ⟨z, n, rv_str hx, rv_int hy, hz.1, hz.2.1, hz.2.2, New.str q⟩
    · exact q.elim
  · refine .inl (sim_I x y H Q px py Fx Fy hx hy ?_)
    have : pMulP px py = pMul px py := by
      unfold pMulP
      split
      · exact absurd ⟨_, _, rfl, rfl⟩ hp
      · rfl
    rw [this] at q
    exact q
end
end PVL

/-! P17: list.insert, of values that do not change. -/
namespace PVL
open PySem PySem.Spec L2
def pInsert : PV → List PV → Option (PV × PV)
  | .lst xs, [.int i, y] => if xs.length < sizeLine ∧ immL xs = true ∧ y.imm = true ∧ 0 ≤ i ∧ i < 1000000 then some (.non, .lst (xs.take i.toNat ++ [y] ++ xs.drop i.toNat)) else none
  | _, _ => none
@[simp] theorem pInsert_l (xs : List PV) (i : Int) (y : PV) : pInsert (.lst xs) [.int i, y] = if xs.length < sizeLine ∧ immL xs = true ∧ y.imm = true ∧ 0 ≤ i ∧ i < 1000000 then some (.non, .lst (xs.take i.toNat ++ [y] ++ xs.drop i.toNat)) else none := rfl
abbrev rInsert : V → List V → Hp → VK → Prop := fun x vs H Q => ∃ (l : Addr) (xs : List V) (i : Int) (y : V), x = .ref l ∧ vs = [.int i, y] ∧ H l = some (.lst xs) ∧ xs.length < sizeLine ∧ 0 ≤ i ∧ i < 2 ^ 63 ∧
    Q .non (upd H l (.lst (xs.take i.toNat ++ [y] ++ xs.drop i.toNat)))
theorem mt_insertP {X : Cx} : MtM X "list.insert" rInsert := mt_insert
section
variable {K : PySem.W.Frag}
theorem sim_insert : SimMB K rInsert pInsert := by
  intro x vs H Q p xs Fx hx n ha q
  unfold pInsert at q
  split at q
  · rename_i xs i y
    split at q
    · rename_i hz
      obtain ⟨z1, z2, z3, z4, z5⟩ := hz
      simp only [RV] at hx
      obtain ⟨a, ws, F', rfl, hH, hl, rfl⟩ := hx
      simp only [RB] at ha
      obtain ⟨v1, vr, F1, rfl, h1, v2, vr2, F2, rfl, h2, rfl⟩ := ha
      have hl0 := hl.nil_of z2
      have e0 := RVL.imm z2 hl
      subst e0
      have h2n : RVL K H [y] [v2] [] := by
        have := RVL.one h2
        exact this.nil_of (by simp [immL, z3])
      have h63 : i < 2 ^ 63 := by
        have : (1000000 : Int) < 2 ^ 63 := by decide
        omega
      refine ⟨a, ws, i, v2, rfl, by rw [rv_int h1], hH, by rw [hl.length]; exact z1, z4, h63, ?_⟩
      refine q .non _ [] [a] ?_ (by simp [RV]) (by simp) ⟨fun b o nb e => ?_, fun b z => .inl (by simpa using z)⟩
      · simp only [RV]
        refine ⟨a, _, [], rfl, upd_same, ?_, rfl⟩
        have := ((RVL.take i.toNat hl0).append h2n).append (RVL.drop i.toNat hl0)
        exact RVL.keep (by simpa using this) (keep_upd hH rfl (by simp))
      · rw [upd_ne]
        · exact e
        · intro z; subst z; exact nb (by simp)
    · exact q.elim
  · exact q.elim
end
end PVL

/-! P18: list.extend by a tuple. -/
namespace PVL
open PySem PySem.Spec L2
theorem extend_tup (l : Addr) (items : Array Value) (n : Nat) (b : Addr) (o : Obj) (items2 : Array Value) (n2 : Nat) (hs0 : ¬(!items.isEmpty && Builtin.List.listTooLong (items.size + items2.size)) = true) (hs1 : items.size ≤ sizeLine) (hs2 : items.size + items2.size ≤ sizeLine + 1) (ho : o.cls = .type "tuple") (hd : o.data = .seq items2 n2) :
    Meets (Builtin.«list.extend» ⟨[.ref l, .ref b], []⟩) (fun _ R s => s.heap.get? l = some { cls := .type "list", dict := none, data := .seq items n, slots := #[] } ∧ s.heap.get? b = some o ∧ R (.ok (.ret Value.none)) { s with heap := s.heap.update l (Obj.mapSeq fun x => x ++ items2), toks := s.toks }) :=
  .of_wp fun prog w A R s h => by
    obtain ⟨hp, g, d, tk, os⟩ := s; obtain ⟨hl, hb, h⟩ := h
    obtain ⟨oc, od, odt, os'⟩ := o
    simp only at ho hd
    subst ho
    subst hd
    have f1 := AutoSeq1.idx_int; have f2 := AutoSeq1.sub_tuple_tuple; have f3 := AutoSeq1.sub_list_list; have f4 := AutoSeq1.sub_tuple_list; have f5 := AutoSeq1.sub_list_tuple
    have hz' : (items ++ items2).size ≤ sizeLine + 1 := by rw [Array.size_append]; exact hs2
    wp_walk using (wpAny_updateSeq hl rfl (hz := hs1) (_hz' := hz')), AutoSeq1.wpAny_loadPart' hl, AutoSeq1.wpAny_loadPart' hb; exact ⟨_, rfl, h⟩
abbrev rExtendT (K : PySem.W.Frag) : V → List V → Hp → VK → Prop := fun x vs H Q => ∃ (l b : Addr) (xs zs : List V), x = .ref l ∧ vs = [.ref b] ∧ H l = some (.lst xs) ∧ SqT K H b zs ∧ xs.length + zs.length ≤ sizeLine ∧ Q .non (upd H l (.lst (xs ++ zs)))
theorem mt_extendT {X : Cx} : MtM X "list.extend" (rExtendT X.K) := by
  intro pins s σ H x vs v us Q I rx rv h
  obtain ⟨l, b, xs, zs, rfl, rfl, hH, hB, hz, q⟩ := h
  cases rx
  obtain ⟨u, rfl, ru⟩ := rv.one
  cases ru
  obtain ⟨z, its, n, r, hl, e⟩ := I.lstM hH
  obtain ⟨its2, r2, ⟨o, e2, hc, n2, hd⟩, hl2⟩ := I.tuple hB
  have hv := r2.length
  have hsz : its.toArray.size + its2.toArray.size ≤ sizeLine := by rw [List.size_toArray, List.size_toArray]; omega
  have hlong : ¬ (!its.toArray.isEmpty && Builtin.List.listTooLong (its.toArray.size + its2.toArray.size)) = true := by
    rw [notLongL hsz, Bool.and_false]
    exact Bool.false_ne_true
  refine call_meets F.slot_list_extend ⟨_, e, rfl⟩ F.entry_list_extend (F.args_list_extend_2 _ _)
    (extend_tup l its.toArray n b o its2.toArray n2 hlong (by rw [List.size_toArray]; omega) (by omega) hc hd) ⟨e, e2, ?_⟩
  refine ⟨.non, _, I.lset (its' := its ++ its2) hH e (by simp) (r.append r2) ?_, rfl, q⟩
  rw [List.length_append]
  omega
def pExtendT : PV → List PV → Option (PV × PV)
  | .lst xs, [.tup ys] => if xs.length + ys.length ≤ sizeLine ∧ immL ys = true then some (.non, .lst (xs ++ ys)) else none
  | _, _ => none
@[simp] theorem pExtendT_t (xs ys : List PV) : pExtendT (.lst xs) [.tup ys] = if xs.length + ys.length ≤ sizeLine ∧ immL ys = true then some (.non, .lst (xs ++ ys)) else none := rfl
section
variable {K : PySem.W.Frag}
theorem sim_extendT : SimMB K (rExtendT K) pExtendT := by
  intro x vs H Q p xs Fx hx n ha q
  unfold pExtendT at q
  split at q
  · rename_i xs ys
    split at q
    · rename_i hz
      simp only [RV] at hx
      obtain ⟨a, ws, F', rfl, hH, hl, rfl⟩ := hx
      obtain ⟨v, F, rfl, hv⟩ := rb1 ha
      simp only [RV] at hv
      obtain ⟨b, us, rfl, hB, hm⟩ := hv
      refine ⟨a, b, ws, us, rfl, rfl, hH, hB, by rw [hl.length, hm.length]; exact hz.1, ?_⟩
      obtain ⟨na, n2⟩ := List.nodup_cons.mp n
      refine q .non _ [] (a :: F') ?_ (by simp [RV]) (by simpa using n) ⟨fun b o nb e => ?_, fun b z => .inl (by simpa using z)⟩
      · simp only [RV]
        exact ⟨a, ws ++ us, F', rfl, upd_same, by simpa using (hl.append (hm.nil_of hz.2)).keep (keep_upd hH rfl (by simpa using na)), rfl⟩
      · rw [upd_ne]
        · exact e
        · intro z; subst z; exact nb (by simp)
    · exact q.elim
  · exact q.elim
end
end PVL

/-! P19: list(range(..)). -/
namespace PVL
open PySem PySem.Spec L2
def rgS (j : Int) : Bool := decide (-1000000 ≤ j) && decide (j ≤ 1000000)
/-- list(range(n)) -/
def eLR1 (m : EM) : EM := fun env => (m env).bind fun x e => match x with
  | .int j => if rgS j = true then .ok (.lst (rngL 0 j.toNat)) e else .bad
  | _ => .bad
/-- list(range(i, j)) -/
def eLR2 (m m2 : EM) : EM := fun env => (m env).bind fun x e => (m2 e).bind fun y e2 => match x, y with
  | .int i, .int j => if rgS i = true ∧ rgS j = true then .ok (.lst (rngL i (j - i).toNat)) e2 else .bad
  | _, _ => .bad
section
variable {K : PySem.W.Frag} {mg : Str → Option Value} {W : WX}
theorem rvl_rng {H : Hp} (lo : Int) (n : Nat) : RVL K H (rngL lo n) ((List.range n).map fun i => V.int (lo + (i : Nat))) [] := by
  unfold rngL
  generalize List.range n = l
  induction l with
  | nil => simp [RVL]
  | cons c r ih =>
    have h1 : RV K H (.int (lo + (c : Nat))) (.int (lo + (c : Nat))) [] := by simp [RV]
    simpa using RVL.cons h1 ih
theorem im_eLR1 {te : TE} {m : EM} (h : ImE K mg W te m) : ImE K mg W (tLstRg (tRg1 te)) (eLR1 m) := by
  intro σ H Q env F hr hn hp
  refine h σ H _ env F hr hn (hp.bind.imp fun x e1 q1 v H1 Fv F1 hr1 hx hn1 hf1 => ?_)
  cases x with
  | int j =>
    simp only [RV] at hx
    obtain ⟨rfl, rfl⟩ := hx
    by_cases hj : rgS j = true
    · simp only [hj, if_true] at q1
      unfold rgS at hj
      simp only [Bool.and_eq_true, decide_eq_true_eq] at hj
      have p62 : (1000000 : Int) < 2 ^ 62 := by decide
      have p24 : (1000000 : Nat) ≤ 2 ^ 24 := by decide
      refine ⟨j, rfl, ⟨by omega, by omega, by omega, by omega, by omega⟩, fun p np => ?_⟩
      have s := sm_upd (o := .lst (rgV 0 j)) np
      have hp' : p ∉ F1 := fun z => by obtain ⟨o, e, _⟩ := hr1.mt p z; rw [np] at e; cases e
      refine q1 (.ref p) _ [p] F1 (hr1.sm s) ?_ ?_ ?_
      · simp only [RV]
        refine ⟨p, rgV 0 j, [], rfl, upd_same, ?_, rfl⟩
        have e0 : rgV 0 j = (List.range j.toNat).map fun i => V.int (0 + (i : Nat)) := by unfold rgV; rw [Int.sub_zero]
        rw [e0]
        exact rvl_rng 0 j.toNat
      · exact List.nodup_cons.mpr ⟨hp', nd_right hn1⟩
      · refine (fm_left hf1).trans (Fm.of_sm s fun b z => ?_)
        rcases List.mem_cons.mp z with z | z
        · exact .inr (by rw [z]; exact np)
        · exact .inl z
    · simp only [hj] at q1; exact q1.elim
  | _ => exact q1.elim
theorem im_eLR2 {te te2 : TE} {m m2 : EM} (h : ImE K mg W te m) (h2 : ImE K mg W te2 m2) : ImE K mg W (tLstRg (tRg2 te te2)) (eLR2 m m2) := by
  intro σ H Q env F hr hn hp
  refine h σ H _ env F hr hn (hp.bind.imp fun x e1 q1 v H1 Fv F1 hr1 hx hn1 hf1 => ?_)
  cases x with
  | int i =>
    simp only [RV] at hx
    obtain ⟨rfl, rfl⟩ := hx
    refine h2 σ H1 _ e1 F1 hr1 (nd_right hn1) ((q1.bind.later (fm_left hf1)) fun y e2 q2 u H2 Gv F2 hr2 hy hn2 hf2 => ?_)
    cases y with
    | int j =>
      simp only [RV] at hy
      obtain ⟨rfl, rfl⟩ := hy
      by_cases hj : rgS i = true ∧ rgS j = true
      · simp only [hj, and_self, if_true] at q2
        obtain ⟨hi, hj⟩ := hj
        unfold rgS at hi hj
        simp only [Bool.and_eq_true, decide_eq_true_eq] at hi hj
        have p62 : (1000000 : Int) < 2 ^ 62 := by decide
        have p24 : (2000000 : Nat) ≤ 2 ^ 24 := by decide
        refine ⟨i, j, rfl, rfl, ⟨by omega, by omega, by omega, by omega, by omega⟩, fun p np => ?_⟩
        have s := sm_upd (o := .lst (rgV i j)) np
        have hp' : p ∉ F2 := fun z => by obtain ⟨o, e, _⟩ := hr2.mt p z; rw [np] at e; cases e
        refine q2 (.ref p) _ [p] F2 (hr2.sm s) ?_ ?_ ?_
        · simp only [RV]
          exact ⟨p, rgV i j, [], rfl, upd_same, rvl_rng i (j - i).toNat, rfl⟩
        · exact List.nodup_cons.mpr ⟨hp', nd_right hn2⟩
        · refine ((fm_left hf1).trans (fm_left hf2)).trans (Fm.of_sm s fun b z => ?_)
          rcases List.mem_cons.mp z with z | z
          · exact .inr (by rw [z]; exact np)
          · exact .inl z
      · simp only [hj, if_false] at q2; exact q2.elim
    | _ => exact q2.elim
  | _ =>
    refine h2 σ H1 _ e1 F1 hr1 (nd_right hn1) ((q1.bind.later (fm_left hf1)) fun y e2 q2 u H2 Gv F2 hr2 hy hn2 hf2 => ?_)
    exact q2.elim
end
section
variable {X : Cx} {W : WX} {a b : Expr} {ta tb : TE} {ma mb : EM} {p p2 pos pos2 : Pos}
theorem j_lr1 (hc : X.calm = true) (hm : X.mg "list" = none) (hm2 : X.mg "range" = none) (h : JE X W a ta ma) (hg : Gl X "list" := by rfl) (hg2 : Gl X "range" := by rfl)
    (na : starEach [a] X.env = (false, eval a X.env) :: starEach [] X.env := by rfl)
    (ns : starEach [.Call (.Name "range" p2) [a] [] pos2] X.env = (false, eval (.Call (.Name "range" p2) [a] [] pos2) X.env) :: starEach [] X.env := by rfl) :
    JE X W (.Call (.Name "list" p) [.Call (.Name "range" p2) [a] [] pos2] [] pos) (tLstRg (tRg1 ta)) (eLR1 ma) := ⟨pe_listRg hc hg hm (prg_1 hg2 hm2 h.pe na) ns, im_eLR1 h.im⟩
theorem j_lr2 (hc : X.calm = true) (hm : X.mg "list" = none) (hm2 : X.mg "range" = none) (h : JE X W a ta ma) (h2 : JE X W b tb mb) (hg : Gl X "list" := by rfl) (hg2 : Gl X "range" := by rfl)
    (na : starEach [a, b] X.env = (false, eval a X.env) :: starEach [b] X.env := by rfl) (nb : starEach [b] X.env = (false, eval b X.env) :: starEach [] X.env := by rfl) (hp : (backTo pos2 (starEach [b] X.env)).any (·.1) = false := by rfl)
    (ns : starEach [.Call (.Name "range" p2) [a, b] [] pos2] X.env = (false, eval (.Call (.Name "range" p2) [a, b] [] pos2) X.env) :: starEach [] X.env := by rfl) :
    JE X W (.Call (.Name "list" p) [.Call (.Name "range" p2) [a, b] [] pos2] [] pos) (tLstRg (tRg2 ta tb)) (eLR2 ma mb) := ⟨pe_listRg hc hg hm (prg_2 hg2 hm2 h.pe h2.pe na nb hp) ns, im_eLR2 h.im h2.im⟩
end
/-! reversed(range(..)) -/
def itRv (m : EM) : PEnv → EO (List PV) := fun env => (m env).bind fun x e => match x with
  | .int j => if rgS j = true then .ok (rngL 0 j.toNat).reverse e else .bad
  | _ => .bad
section
variable {K : PySem.W.Frag} {mg : Str → Option Value} {W : WX}
theorem rng_rev (n i : Nat) (h : i < n) : (rngL 0 n).reverse[i]? = some (.int ((0 : Int) + (n : Int) - 1 + (i : Nat) * (-1))) := by
  rw [List.getElem?_reverse (by rw [ints_len]; exact h), ints_len]
  unfold rngL
  rw [List.getElem?_map, List.getElem?_range (by omega)]
  simp only [Option.map_some, Option.some.injEq, PV.int.injEq]
  omega
theorem im_itRv {te : TE} {m : EM} (h : ImE K mg W te m) : ImI K mg W (iRevR (tRg1 te)) (itRv m) := by
  intro σ H R env F hr hn hp
  refine h σ H _ env F hr hn (hp.bind.imp fun x e1 q1 v H1 Fv F1 hr1 hx hn1 hf1 => ?_)
  cases x with
  | int j =>
    simp only [RV] at hx
    obtain ⟨rfl, rfl⟩ := hx
    by_cases hj : rgS j = true
    · simp only [hj, if_true] at q1
      unfold rgS at hj
      simp only [Bool.and_eq_true, decide_eq_true_eq] at hj
      have p62 : (1000000 : Int) < 2 ^ 62 := by decide
      refine ⟨j, rfl, by omega, by omega, by omega, by omega, ?_⟩
      have e0 : (j - 0).toNat = j.toNat := by rw [Int.sub_zero]
      rw [e0]
      refine q1 _ H1 [] F1 hr1 (nd_right hn1) (fm_left hf1) ?_
      refine ⟨fun _ => True, fun i H v H' => H' = H ∧ v = .int ((0 : Int) + (j.toNat : Int) - 1 + (i : Nat) * (-1)), ?_, trivial, fun _ _ _ _ => trivial, by intro b z; simp at z, ?_⟩
      · have : (rngL 0 j.toNat).reverse.length = j.toNat := by rw [List.length_reverse, ints_len]
        rw [this]
        exact walk_rangeC
      · rintro i H1 x H2 _ ⟨rfl, rfl⟩
        refine ⟨fun _ _ e => e, fun p ep => ?_⟩
        by_cases hi : i < j.toNat
        · rw [rng_rev _ _ hi] at ep
          cases ep
          simp [RV]
        · rw [List.getElem?_eq_none (by rw [List.length_reverse, ints_len]; omega)] at ep
          cases ep
    · simp only [hj] at q1; exact q1.elim
  | _ => exact q1.elim
end
section
variable {X : Cx} {W : WX} {a tg : Expr} {ta : TE} {ma : EM} {p p2 pos pos2 : Pos}
theorem ji_rv (hm : X.mg "reversed" = none) (hm2 : X.mg "range" = none) (h : JE X W a ta ma) (hg : Gl X "reversed" := by rfl) (hg2 : Gl X "range" := by rfl)
    (na : starEach [a] X.env = (false, eval a X.env) :: starEach [] X.env := by rfl)
    (ns : starEach [.Call (.Name "range" p2) [a] [] pos2] X.env = (false, eval (.Call (.Name "range" p2) [a] [] pos2) X.env) :: starEach [] X.env := by rfl) :
    JI X W tg (.Call (.Name "reversed" p) [.Call (.Name "range" p2) [a] [] pos2] [] pos) (iRevR (tRg1 ta)) (itRv ma) := ⟨pi_revR hg hm (prg_1 hg2 hm2 h.pe na) ns, im_itRv h.im⟩
end
end PVL

/-! P20: sorted(..) of data. -/
namespace PVL
open PySem PySem.Spec PySem.W L2
abbrev srtB {β : Type} (bs : List (β × PyData)) : List (β × PyData) := bs.mergeSort (dataLe false Prod.snd)
abbrev rSortD (K : PySem.W.Frag) : List V → Hp → VK → Prop := fun vs H Q => ∃ (a : Addr) (ws : List V) (ds : List PyData), vs = [V.ref a] ∧ SqL K H a ws ∧ DpAll K H ws ds ∧ AllAlike ds ∧ PySem.W.Sortable ds ∧ (∀ d ∈ ds, d.depth ≤ 50) ∧
  ∀ p, H p = none → Q (.ref p) (upd H p (.lst ((srtB (ws.zip ds)).map Prod.fst)))
theorem dpAll_len {K : PySem.W.Frag} {H : Hp} : ∀ {ws : List V} {ds : List PyData}, DpAll K H ws ds → ws.length = ds.length
  | [], _, h => by cases h; rfl
  | _ :: _, _, h => by
    cases h with
    | cons h1 h2 => simp [dpAll_len h2]
section
variable {X : Cx} {pins : List (Addr × Obj)} {σ : St} {H : Hp} {s : Shared}
theorem each_of (I : Inv X pins σ H s) : ∀ {ws : List V} {ds : List PyData} {us : List Value}, DpAll X.K H ws ds → Vals ws us → EachIs (fun v (b : V × PyData) => RelV b.1 v) us (ws.zip ds) ∧ EachIs (fun v (b : V × PyData) => ∃ as, Reads s.heap v b.2 as) us (ws.zip ds)
  | [], _, us, h, r => by
    cases h
    cases r
    exact ⟨.nil, .nil⟩
  | w :: ws, _, us, h, r => by
    cases h with
    | cons h1 h2 =>
      cases r with
      | cons r1 r2 =>
        obtain ⟨e1, e2⟩ := each_of I h2 r2
        exact ⟨.cons r1 e1, .cons (Dp.reads I _ _ _ h1 r1) e2⟩
theorem vals_each : ∀ {us : List Value} {bs : List (V × PyData)}, EachIs (fun v (b : V × PyData) => RelV b.1 v) us bs → Vals (bs.map Prod.fst) us
  | _, _, .nil => .nil
  | _, _, .cons h t => .cons h (vals_each t)
theorem zip_snd : ∀ {α : Type} (ws : List α) (ds : List PyData), ws.length = ds.length → (ws.zip ds).map Prod.snd = ds
  | _, [], [], _ => rfl
  | _, [], _ :: _, h => by simp at h
  | _, _ :: _, [], h => by simp at h
  | _, w :: ws, d :: ds, h => by
    rw [List.zip_cons_cons, List.map_cons, zip_snd ws ds (by simpa using h)]
end
section
variable {X : Cx}
theorem cr_sortD (hu : X.A.units + 64 < cLine) : CallR X (.builtin "sorted") (rSortD X.K) := by
  intro pins s σ H vs us Q I r h
  obtain ⟨a, ws, ds, rfl, hs, hd, hal, hk, hdep, q⟩ := h
  obtain ⟨its, rv, hl, hz⟩ := I.list hs
  rw [Vals.ref1 r]
  have hlen := dpAll_len hd
  obtain ⟨e1, e2⟩ := each_of I hd rv
  have hm := zip_snd ws ds hlen
  have hbl : (ws.zip ds).length = ws.length := by rw [List.length_zip, hlen, Nat.min_self]
  refine sorted_data (enc := Prod.snd) (bs := ws.zip ds) hl.isList e1 e2 (by rw [hm]; exact hal) (by rw [hm]; exact hk) (by rw [hbl]; exact hz) (fun b hb => ?_) fun out h1 h2 => ?_
  · have : b.2 ∈ ds := by rw [← hm]; exact List.mem_map_of_mem hb
    have := hdep _ this
    omega
  · obtain ⟨ep, he'⟩ := PyProof.Rows.sortedAll_at s.heap its out.toArray
    have hl2 : ((srtB (ws.zip ds)).map Prod.fst).length ≤ sizeLine := by
      rw [List.length_map, List.length_mergeSort, hbl]; exact hz
    exact ⟨.ref _, upd H (s.heap.objs.size + 1) (.lst ((srtB (ws.zip ds)).map Prod.fst)), I.laid (t' := s.toks) (fun _ _ => PyProof.Rows.sortedAll_old) (Nat.le_succ _) ⟨hl2, out, ep, vals_each h2, he'⟩, rfl, q _ (I.hok.fresh (Nat.le_succ _))⟩
end
/-! its pure side -/
def isTC : PyData → Bool
  | .tuple (_ :: _) => true
  | _ => false
def notTN : PyData → Bool
  | .none => false
  | .tuple _ => false
  | _ => true
def sortOk (ds : List PyData) : Bool := (ds.all fun d => ds.all fun d' => alike d d') && ((ds.all isTC || ds.all notTN) && ds.all fun d => decide (d.depth ≤ 50))
theorem sortOk_ok {ds : List PyData} (h : sortOk ds = true) : AllAlike ds ∧ PySem.W.Sortable ds ∧ ∀ d ∈ ds, d.depth ≤ 50 := by
  unfold sortOk at h
  simp only [Bool.and_eq_true, Bool.or_eq_true, List.all_eq_true, decide_eq_true_eq] at h
  obtain ⟨h1, h2, h3⟩ := h
  refine ⟨h1, ?_, h3⟩
  rcases h2 with h2 | h2
  · refine .inl fun d hd => ?_
    have := h2 d hd
    cases d with
    | tuple xs =>
      cases xs with
      | nil => simp [isTC] at this
      | cons x r => exact ⟨x, r, rfl⟩
    | _ => simp [isTC] at this
  · refine .inr fun d hd => ?_
    have := h2 d hd
    cases d with
    | none => simp [notTN] at this
    | tuple xs => simp [notTN] at this
    | _ => exact ⟨by simp, by simp⟩
def srtP (xs : List PV) (ds : List PyData) : List PV := (srtB (xs.zip ds)).map Prod.fst
def pSorted : List PV → Option PV
  | [.lst xs] => (pDL xs).bind fun ds => if immL xs = true ∧ sortOk ds = true then some (.lst (srtP xs ds)) else none
  | _ => none
@[simp] theorem pSorted_l (xs : List PV) : pSorted [.lst xs] = (pDL xs).bind fun ds => if immL xs = true ∧ sortOk ds = true then some (.lst (srtP xs ds)) else none := rfl
theorem srt_map {α β : Type} (f : α → β) (bs : List (α × PyData)) : (srtB bs).map (fun b => (f b.1, b.2)) = srtB (bs.map fun b => (f b.1, b.2)) := List.map_mergeSort (fun _ _ _ _ => rfl)
section
variable {K : PySem.W.Frag}
theorem rvl_mem {H : Hp} : ∀ {xs : List PV} {vs : List V}, RVL K H xs vs [] → xs.length = vs.length ∧ ∀ t ∈ xs.zip vs, RV K H t.1 t.2 []
  | [], vs, h => by
    simp only [RVL] at h
    obtain ⟨rfl, _⟩ := h
    simp
  | x :: xs, vs, h => by
    simp only [RVL] at h
    obtain ⟨v, vr, F1, F2, rfl, h1, h2, e⟩ := h
    obtain ⟨rfl, rfl⟩ := List.append_eq_nil_iff.mp e.symm
    obtain ⟨g1, g2⟩ := rvl_mem h2
    refine ⟨by simp [g1], fun t ht => ?_⟩
    rw [List.zip_cons_cons] at ht
    rcases List.mem_cons.mp ht with rfl | ht
    · exact h1
    · exact g2 t ht
theorem rvl_of_mem {H : Hp} : ∀ (T : List ((PV × V) × PyData)), (∀ t ∈ T, RV K H t.1.1 t.1.2 []) → RVL K H (T.map fun t => t.1.1) (T.map fun t => t.1.2) []
  | [], _ => by simp [RVL]
  | t :: T, h => by
    have := RVL.cons (h t List.mem_cons_self) (rvl_of_mem T fun x hx => h x (List.mem_cons_of_mem _ hx))
    simpa using this
theorem zip3 : ∀ {α β : Type} (xs : List α) (vs : List β) (ds : List PyData), xs.length = vs.length → ((xs.zip vs).zip ds).map (fun t => (t.1.1, t.2)) = xs.zip ds ∧ ((xs.zip vs).zip ds).map (fun t => (t.1.2, t.2)) = vs.zip ds
  | _, _, [], [], ds, _ => by simp
  | _, _, [], _ :: _, _, h => by simp at h
  | _, _, _ :: _, [], _, h => by simp at h
  | _, _, x :: xs, v :: vs, [], h => by simp
  | _, _, x :: xs, v :: vs, d :: ds, h => by
    obtain ⟨h1, h2⟩ := zip3 xs vs ds (by simpa using h)
    simp only [List.zip_cons_cons, List.map_cons, h1, h2, and_self]
theorem rvl_srt {H : Hp} {xs : List PV} {vs : List V} {ds : List PyData} (h : RVL K H xs vs []) : RVL K H (srtP xs ds) ((srtB (vs.zip ds)).map Prod.fst) [] := by
  obtain ⟨h1, h2⟩ := rvl_mem h
  obtain ⟨z1, z2⟩ := zip3 xs vs ds h1
  have m1 := srt_map (fun t : PV × V => t.1) ((xs.zip vs).zip ds)
  have m2 := srt_map (fun t : PV × V => t.2) ((xs.zip vs).zip ds)
  rw [z1] at m1
  rw [z2] at m2
  unfold srtP
  rw [← m1, ← m2, List.map_map, List.map_map]
  refine rvl_of_mem _ fun t ht => ?_
  have : t ∈ (xs.zip vs).zip ds := (List.mergeSort_perm _ _).mem_iff.mp ht
  have := (List.of_mem_zip (a := t.1) (b := t.2) this).1
  exact h2 t.1 this
theorem sim_sorted : SimL K (rSortD K) pSorted := by
  intro xs H Q ps h q
  unfold pSorted at q
  split at q
  · rename_i ys
    cases e : pDL ys with
    | none => rw [e] at q; exact q.elim
    | some ds =>
      rw [e] at q
      simp only [Option.bind_some] at q
      split at q
      · rename_i hi
        obtain ⟨v, F, rfl, hv⟩ := rb1 h
        simp only [RV] at hv
        obtain ⟨a, vs, _, rfl, ha, hl, _⟩ := hv
        obtain ⟨k1, k2, k3⟩ := sortOk_ok hi.2
        exact ⟨a, vs, ds, rfl, SqL.of ha, pDL_ok hl e, k1, k2, k3, New.lst q (rvl_srt (hl.nil_of hi.1))⟩
      · exact q.elim
  · exact q.elim
end
end PVL

/-! P21: a list times a number. -/
namespace PVL
open PySem PySem.Spec L2
def pMulL : PV → PV → Option PV
  | .lst xs, .int k => if immL xs = true ∧ xs.length ≤ 1000 ∧ -1000 ≤ k ∧ k ≤ 1000 then some (.lst (List.replicate k.toNat xs).flatten) else none
  | a, b => pMul a b
@[simp] theorem pMulL_l (xs : List PV) (k : Int) : pMulL (.lst xs) (.int k) = if immL xs = true ∧ xs.length ≤ 1000 ∧ -1000 ≤ k ∧ k ≤ 1000 then some (.lst (List.replicate k.toNat xs).flatten) else none := rfl
section
variable {X : Cx}
theorem op_mulL : OpR X (binaryOp .Mult) (fun x y H Q => rI CMul (fun i j => .int (i * j)) x y H Q ∨ rRep x y H Q) := op_mul.or op_rep
end
section
variable {K : PySem.W.Frag}
theorem rvl_rep {H : Hp} {xs : List PV} {vs : List V} (h : RVL K H xs vs []) : ∀ n : Nat, RVL K H (List.replicate n xs).flatten (List.replicate n vs).flatten []
  | 0 => by simp [RVL]
  | n + 1 => by
    rw [List.replicate_succ, List.replicate_succ, List.flatten_cons, List.flatten_cons]
    simpa using h.append (rvl_rep h n)
theorem sim_mulL : SimR2 K (fun x y H Q => rI CMul (fun i j => .int (i * j)) x y H Q ∨ rRep x y H Q) pMulL := by
  intro x y H Q px py Fx Fy hx hy q
  by_cases hp : ∃ xs k, px = .lst xs ∧ py = .int k
  · obtain ⟨xs, k, rfl, rfl⟩ := hp
    rw [pMulL_l] at q
    split at q
    · rename_i hz
      obtain ⟨z1, z2, z3, z4⟩ := hz
      simp only [RV] at hx
      obtain ⟨a, vs, F', rfl, ha, hl, _⟩ := hx
      have p63 : (1000 : Int) < 2 ^ 63 := by decide
      have hm : vs.length * k.toNat ≤ 1000 * 1000 := Nat.mul_le_mul (by rw [hl.length]; exact z2) (by omega)
      exact .inr ⟨a, k, vs, rfl, rv_int hy, ha, by omega, by omega, Nat.le_trans (Nat.le_trans hm (by decide)) (show 1000000 ≤ sizeLine by decide +kernel), New.lst q (rvl_rep (hl.nil_of z1) k.toNat)⟩
    · exact q.elim
  · refine .inl (sim_I x y H Q px py Fx Fy hx hy ?_)
    have : pMulL px py = pMul px py := by
      unfold pMulL
      split
      · exact absurd ⟨_, _, rfl, rfl⟩ hp
      · rfl
    rw [this] at q
    exact q
end
end PVL

namespace K28
open PySem PySem.Spec L2 PVL
/-! ### the text by places -/
def top (i : Nat) : Stmt := PySem.Challenge.pw_formatory_k28_moves_made.main.body.getD i (.Pass ⟨0, 0, 0, 0⟩)
abbrev s__law_begin : Stmt := top 14
abbrev s__law_draw : Stmt := top 15
abbrev s__law_pick : Stmt := top 16
abbrev s__law_taking : Stmt := top 25
abbrev s__law_rare : Stmt := top 17
abbrev s__law_passing : Stmt := top 26
abbrev s__law_row_of_steps : Stmt := top 27
abbrev s__law_standing : Stmt := top 28
abbrev s__law_is_int : Stmt := top 18
abbrev s__law_same : Stmt := top 19
abbrev s__law_lifted : Stmt := top 22
abbrev s__law_behind : Stmt := top 23
abbrev s__law_onward : Stmt := top 20
abbrev s__law_ways : Stmt := top 21
abbrev s__law_due : Stmt := top 24
abbrev s_cells_for : Stmt := top 10
abbrev s_raised_by : Stmt := top 9
abbrev s_counted : Stmt := top 11
abbrev s_with_content : Stmt := top 6
abbrev s_passed : Stmt := top 7
abbrev s_settle : Stmt := top 8
abbrev s_moves : Stmt := top 12
abbrev s__law_holds : Stmt := top 29
abbrev s_law : Stmt := top 30
abbrev s_TooMany : Stmt := inClass (top 2) 0
/-! ### the pure functions -/
def b_m__law_taking : SM := sSeq (sAsg (eLst (aNil)) (tgN 3)) (sSeq (sFor (itR1 (aCons (gOwn (eCall m__law_draw (aCons (gRef 0) (aCons (gOwn (eC (.int 4))) (aNil))))) (aNil))) (tgN 4) (sSeq (sAsg (eCall m__law_draw (aCons (gRef 0) (aCons (gRef 2) (aNil)))) (tgN 6)) (sSeq (sAsg (eCall m__law_draw (aCons (gRef 0) (aCons (gOwn (eC (.int 7))) (aNil)))) (tgN 7)) (sSeq (sAsg (eOp pAdd (gOwn (eC (.int 1))) (gOwn (eCall m__law_draw (aCons (gRef 0) (aCons (gOwn (eC (.int 5))) (aNil)))))) (tgN 8)) (sExpr (eMeth "list" 3 pAppend (aCons (gOwn (eCall m__law_pick (aCons (gRef 0) (aCons (gOwn (eLst (aCons (gOwn (eTup (aCons (gOwn (eC (.str "up"))) (aCons (gOwn (eVar 6)) (aCons (gOwn (eVar 7)) (aNil)))))) (aCons (gOwn (eTup (aCons (gOwn (eC (.str "down"))) (aCons (gOwn (eVar 6)) (aNil))))) (aCons (gOwn (eTup (aCons (gOwn (eC (.str "add"))) (aCons (gOwn (eVar 6)) (aCons (gOwn (eN (rOp pAdd (rC (.int 2)) (rVar 7)))) (aNil)))))) (aCons (gOwn (eTup (aCons (gOwn (eC (.str "less"))) (aCons (gOwn (eVar 6)) (aCons (gOwn (eN (rOp pAdd (rC (.int 2)) (rVar 7)))) (aNil)))))) (aCons (gOwn (eTup (aCons (gOwn (eC (.str "roll"))) (aCons (gOwn (eVar 6)) (aCons (gOwn (eVar 8)) (aCons (gOwn (eN (rOp pAdd (rC (.int 2)) (rVar 7)))) (aNil))))))) (aCons (gOwn (eTup (aCons (gOwn (eC (.str "turn"))) (aCons (gOwn (eVar 6)) (aCons (gOwn (eN (rOp pAdd (rC (.int 2)) (rVar 7)))) (aNil)))))) (aCons (gOwn (eTup (aCons (gOwn (eC (.str "seen"))) (aCons (gOwn (eVar 6)) (aNil))))) (aNil)))))))))) (aNil))))) (aNil)))))))) (sSeq (sAsg (eCall m__law_pick (aCons (gRef 0) (aCons (gOwn (eLst (aCons (gOwn (eC (.str "a"))) (aCons (gOwn (eC (.str "b/c"))) (aCons (gOwn (eC (.str "left/.1"))) (aCons (gOwn (eC (.str "m/two/a"))) (aNil))))))) (aNil)))) (tgN 5)) (sSeq (sAsg (eCall m__law_draw (aCons (gRef 0) (aCons (gRef 2) (aNil)))) (tgN 6)) (sRet (eCall m__law_pick (aCons (gRef 0) (aCons (gOwn (eLst (aCons (gOwn (eTup (aCons (gOwn (eC (.str "cell"))) (aCons (gOwn (eCall m__law_draw (aCons (gRef 0) (aCons (gRef 1) (aNil))))) (aCons (gOwn (eVar 5)) (aCons (gOwn (eN (rCl pTuple (raCons (rVar 3) (raNil))))) (aNil))))))) (aCons (gOwn (eTup (aCons (gOwn (eC (.str "any"))) (aCons (gOwn (eVar 5)) (aCons (gOwn (eN (rCl pTuple (raCons (rVar 3) (raNil))))) (aNil)))))) (aCons (gOwn (eTup (aCons (gOwn (eC (.str "keep"))) (aCons (gOwn (eVar 6)) (aCons (gOwn (eVar 5)) (aCons (gOwn (eN (rCl pTuple (raCons (rVar 3) (raNil))))) (aNil))))))) (aCons (gOwn (eTup (aCons (gOwn (eC (.str "tell"))) (aCons (gOwn (eVar 6)) (aCons (gOwn (eCall m__law_pick (aCons (gRef 0) (aCons (gOwn (eLst (aCons (gOwn (eC (.int 1))) (aCons (gOwn (eVar 1)) (aCons (gOwn (eN (rOp pMul (rVar 1) (rVar 1)))) (aNil)))))) (aNil))))) (aCons (gOwn (eVar 5)) (aCons (gOwn (eN (rCl pTuple (raCons (rVar 3) (raNil))))) (aNil)))))))) (aNil))))))) (aNil))))))))
def m__law_taking : FM := fnM 3 9 [] b_m__law_taking
def b_m__law_passing : SM := sSeq (sAsg (eLC (itR1 (aCons (gOwn (eC (.int 3))) (aNil))) [9] (tgN 9) (bYes) (eOp pAdd (gOwn (eN (rOp pAdd (rVar 1) (rC (.int 1))))) (gOwn (eCall m__law_draw (aCons (gRef 0) (aCons (gOwn (eN (rOp pSub (rVar 2) (rVar 1)))) (aNil))))))) (tgN 5)) (sSeq (sAsg (eCall m__law_draw (aCons (gRef 0) (aCons (gRef 3) (aNil)))) (tgN 6)) (sSeq (sAsg (eCall m__law_draw (aCons (gRef 0) (aCons (gOwn (eC (.int 7))) (aNil)))) (tgN 7)) (sSeq (sAsg (eCall m__law_draw (aCons (gRef 0) (aCons (gOwn (eC (.int 9))) (aNil)))) (tgN 8)) (sSeq (sIf (bAnd (bE (eN (rOp pLt (rVar 8) (rC (.int 2))))) (bE (eN (rOp pLt (rVar 4) (rC (.int 3)))))) (sRet (eTup (aCons (gOwn (eC (.str "fork"))) (aCons (gOwn (eCl pTuple (aCons (gOwn (eSl pSl (gRef 5) (oNone) (oSome (eOp pAdd (gOwn (eC (.int 1))) (gOwn (eCall m__law_draw (aCons (gRef 0) (aCons (gOwn (eC (.int 3))) (aNil))))))))) (aNil)))) (aNil))))) (sNil)) (sSeq (sIf (bE (eN (rOp pEq (rVar 8) (rC (.int 2))))) (sRet (eTup (aCons (gOwn (eC (.str "jump"))) (aCons (gOwn (eR (rOp pIx (rVar 5) (rC (.int 0))))) (aNil))))) (sNil)) (sSeq (sIf (bE (eN (rOp pEq (rVar 8) (rC (.int 3))))) (sRet (eTup (aCons (gOwn (eC (.str "round"))) (aCons (gOwn (eVar 6)) (aCons (gOwn (eR (rOp pIx (rVar 5) (rC (.int 0))))) (aNil)))))) (sNil)) (sSeq (sIf (bE (eN (rOp pEq (rVar 8) (rC (.int 4))))) (sRet (eTup (aCons (gOwn (eC (.str "check"))) (aCons (gOwn (eVar 6)) (aCons (gOwn (eCall m__law_draw (aCons (gRef 0) (aCons (gOwn (eC (.int 3))) (aNil))))) (aNil)))))) (sNil)) (sSeq (sIf (bE (eN (rOp pEq (rVar 8) (rC (.int 5))))) (sRet (eTup (aCons (gOwn (eC (.str "within"))) (aCons (gOwn (eVar 6)) (aCons (gOwn (eCall m__law_draw (aCons (gRef 0) (aCons (gOwn (eN (rOp pAdd (rVar 7) (rC (.int 1))))) (aNil))))) (aCons (gOwn (eVar 7)) (aNil))))))) (sNil)) (sSeq (sIf (bE (eN (rOp pEq (rVar 8) (rC (.int 6))))) (sRet (eTup (aCons (gOwn (eC (.str "put"))) (aCons (gOwn (eVar 6)) (aCons (gOwn (eVar 7)) (aNil)))))) (sNil)) (sSeq (sIf (bAnd (bE (eN (rOp pEq (rVar 8) (rC (.int 8))))) (bE (eCall m__law_rare (aCons (gRef 0) (aCons (gOwn (eC (.int 3))) (aNil)))))) (sRet (eTup (aCons (gOwn (eC (.str "never"))) (aNil)))) (sNil)) (sRet (eTup (aCons (gOwn (eC (.str "bump"))) (aCons (gOwn (eVar 6)) (aCons (gOwn (eCall m__law_pick (aCons (gRef 0) (aCons (gOwn (eLst (aCons (gOwn (eC (.int 1))) (aCons (gOwn (eN (rUn pNeg (rC (.int 1))))) (aCons (gOwn (eC (.int 2))) (aCons (gOwn (eN (rUn pNeg (rC (.int 3))))) (aNil))))))) (aNil))))) (aCons (gOwn (eVar 7)) (aNil)))))))))))))))))
def m__law_passing : FM := fnM 5 10 [] b_m__law_passing
def b_m__law_row_of_steps : SM := sSeq (sAsg (eOp pAdd (gOwn (eC (.int 2))) (gOwn (eCall m__law_draw (aCons (gRef 0) (aCons (gOwn (eC (.int 7))) (aNil)))))) (tgN 1)) (sSeq (sAsg (eOp pAdd (gOwn (eC (.int 1))) (gOwn (eCall m__law_draw (aCons (gRef 0) (aCons (gOwn (eC (.int 5))) (aNil)))))) (tgN 2)) (sSeq (sAsg (eOp pAdd (gOwn (eC (.int 4))) (gOwn (eCall m__law_draw (aCons (gRef 0) (aCons (gOwn (eC (.int 11))) (aNil)))))) (tgN 3)) (sSeq (sAsg (eLst (aNil)) (tgN 4)) (sSeq (sAsg (eC (.int 0)) (tgN 5)) (sSeq (sFor (itR1 (aCons (gRef 3) (aNil))) (tgN 6) (sSeq (sAsg (eN (rCl pLen (raCons (rVar 4) (raNil)))) (tgN 7)) (sSeq (sAsg (eCall m__law_draw (aCons (gRef 0) (aCons (gOwn (eC (.int 10))) (aNil)))) (tgN 8)) (sSeq (sAsg (eCall m__law_draw (aCons (gRef 0) (aCons (gRef 2) (aNil)))) (tgN 9)) (sIf (bE (eN (rOp pLt (rVar 7) (rVar 3)))) (sIf (bAnd (bE (eN (rOp pEq (rVar 8) (rC (.int 1))))) (bE (eN (rOp pLe (rOp pAdd (rVar 7) (rC (.int 3))) (rVar 3))))) (sExpr (eMethB "list" 4 pExtend (aCons (gOwn (eLst (aCons (gOwn (eTup (aCons (gOwn (eC (.str "fork"))) (aCons (gOwn (eTup (aCons (gOwn (eN (rOp pAdd (rVar 7) (rC (.int 3))))) (aCons (gOwn (eN (rOp pAdd (rVar 7) (rC (.int 1))))) (aNil))))) (aNil))))) (aCons (gOwn (eCall m__law_taking (aCons (gRef 0) (aCons (gRef 1) (aCons (gRef 2) (aNil)))))) (aCons (gOwn (eTup (aCons (gOwn (eC (.str "jump"))) (aCons (gOwn (eVar 7)) (aNil))))) (aNil)))))) (aNil)))) (sIf (bAnd (bE (eN (rOp pEq (rVar 8) (rC (.int 2))))) (bE (eN (rOp pLe (rOp pAdd (rVar 7) (rC (.int 3))) (rVar 3))))) (sExpr (eMethB "list" 4 pExtend (aCons (gOwn (eLst (aCons (gOwn (eTup (aCons (gOwn (eC (.str "round"))) (aCons (gOwn (eVar 9)) (aCons (gOwn (eN (rOp pAdd (rVar 7) (rC (.int 3))))) (aNil)))))) (aCons (gOwn (eCall m__law_taking (aCons (gRef 0) (aCons (gRef 1) (aCons (gRef 2) (aNil)))))) (aCons (gOwn (eTup (aCons (gOwn (eC (.str "jump"))) (aCons (gOwn (eVar 7)) (aNil))))) (aNil)))))) (aNil)))) (sIf (bAnd (bE (eN (rOp pEq (rVar 8) (rC (.int 3))))) (bE (eN (rOp pLe (rOp pAdd (rVar 7) (rC (.int 6))) (rVar 3))))) (sSeq (sAsg (eTup (aCons (gOwn (eC (.str "bump"))) (aCons (gOwn (eCall m__law_draw (aCons (gRef 0) (aCons (gRef 2) (aNil))))) (aCons (gOwn (eCall m__law_pick (aCons (gRef 0) (aCons (gOwn (eLst (aCons (gOwn (eC (.int 1))) (aCons (gOwn (eN (rUn pNeg (rC (.int 1))))) (aNil))))) (aNil))))) (aCons (gOwn (eCall m__law_draw (aCons (gRef 0) (aCons (gOwn (eC (.int 7))) (aNil))))) (aNil)))))) (tgN 10)) (sSeq (sAsg (eCall m__law_taking (aCons (gRef 0) (aCons (gRef 1) (aCons (gRef 2) (aNil))))) (tgN 11)) (sSeq (sExpr (eMethB "list" 4 pExtend (aCons (gOwn (eLst (aCons (gOwn (eTup (aCons (gOwn (eC (.str "fork"))) (aCons (gOwn (eTup (aCons (gOwn (eN (rOp pAdd (rVar 7) (rC (.int 6))))) (aCons (gOwn (eN (rOp pAdd (rVar 7) (rC (.int 1))))) (aNil))))) (aNil))))) (aCons (gOwn (eVar 10)) (aCons (gOwn (eVar 11)) (aNil)))))) (aNil)))) (sExpr (eMethB "list" 4 pExtend (aCons (gOwn (eLst (aCons (gOwn (eTup (aCons (gOwn (eC (.str "check"))) (aCons (gOwn (eVar 9)) (aCons (gOwn (eC (.int 1))) (aNil)))))) (aCons (gOwn (eTup (aCons (gOwn (eC (.str "put"))) (aCons (gOwn (eVar 9)) (aCons (gOwn (eC (.int 0))) (aNil)))))) (aCons (gOwn (eTup (aCons (gOwn (eC (.str "jump"))) (aCons (gOwn (eVar 7)) (aNil))))) (aNil)))))) (aNil))))))) (sIf (bE (eN (rOp pLt (rVar 8) (rC (.int 6))))) (sExpr (eMeth "list" 4 pAppend (aCons (gOwn (eCall m__law_taking (aCons (gRef 0) (aCons (gRef 1) (aCons (gRef 2) (aNil)))))) (aNil)))) (sSeq (sExpr (eMeth "list" 4 pAppend (aCons (gOwn (eCall m__law_passing (aCons (gRef 0) (aCons (gRef 7) (aCons (gRef 3) (aCons (gRef 2) (aCons (gRef 5) (aNil)))))))) (aNil)))) (sAug 5 pAddI (eN (rCl pInt (raCons (rOp pEq (rOp pIx (rOp pIx (rVar 4) (rUn pNeg (rC (.int 1)))) (rC (.int 0))) (rC (.str "fork"))) (raNil)))))))))) (sNil)))))) (sRet (eTup (aCons (gOwn (eVar 1)) (aCons (gOwn (eVar 2)) (aCons (gOwn (eOp pAdd (gOwn (eN (rCl pTuple (raCons (rVar 4) (raNil))))) (gOwn (eTup (aCons (gOwn (eTup (aCons (gOwn (eC (.str "end"))) (aNil)))) (aNil)))))) (aNil)))))))))))
def m__law_row_of_steps : FM := fnM 1 12 [] b_m__law_row_of_steps
def b_m__law_standing : SM := sSeq (sAsg (eVar 1) (tgT 3 (tgsCons (tgN 4) (tgsCons (tgN 5) (tgsCons (tgN 6) (tgsNil)))))) (sSeq (sAsg (eLC (itR1 (aCons (gOwn (eN (rCl pLen (raCons (rVar 6) (raNil))))) (aNil))) [7] (tgN 7) (bE (eOp pIn (gOwn (eR (rOp pIx (rOp pIx (rVar 6) (rVar 7)) (rC (.int 0))))) (gOwn (eTup (aCons (gOwn (eC (.str "cell"))) (aCons (gOwn (eC (.str "any"))) (aCons (gOwn (eC (.str "keep"))) (aCons (gOwn (eC (.str "tell"))) (aCons (gOwn (eC (.str "end"))) (aNil)))))))))) (eVar 7)) (tgN 2)) (sSeq (sAsg (eCall m__law_pick (aCons (gRef 0) (aCons (gOwn (eLst (aCons (gOwn (eC (.int 7))) (aCons (gOwn (eC (.int 60))) (aCons (gOwn (eC (.int 3))) (aNil)))))) (aNil)))) (tgN 3)) (sRet (eTup (aCons (gOwn (eCall m__law_pick (aCons (gRef 0) (aCons (gRef 2) (aNil))))) (aCons (gOwn (eCl pTuple (aCons (gOwn (eLC (itR1 (aCons (gRef 5) (aNil))) [7] (tgN 7) (bYes) (eCall m__law_draw (aCons (gRef 0) (aCons (gRef 3) (aNil)))))) (aNil)))) (aNil)))))))
def m__law_standing : FM := fnM 2 8 [] b_m__law_standing
def b_m__law_lifted : SM := sSeq (sAsg (eR (rOp pIx (rVar 0) (rC (.int 0)))) (tgN 3)) (sSeq (sIf (bE (eN (rOp pEq (rVar 3) (rC (.str "up"))))) (sRet (eOp pMulL (gOwn (eLst (aCons (gOwn (eN (rOp pAdd (rVar 1) (rC (.int 1))))) (aNil)))) (gOwn (eN (rCl pInt (raCons (rOp pLt (rVar 1) (rOp pIx (rVar 0) (rC (.int 2)))) (raNil))))))) (sNil)) (sSeq (sIf (bE (eN (rOp pEq (rVar 3) (rC (.str "down"))))) (sRet (eOp pMulL (gOwn (eLst (aCons (gOwn (eN (rOp pSub (rVar 1) (rC (.int 1))))) (aNil)))) (gOwn (eN (rCl pInt (raCons (rOp pGt (rVar 1) (rC (.int 0))) (raNil))))))) (sNil)) (sSeq (sIf (bE (eN (rOp pEq (rVar 3) (rC (.str "add"))))) (sRet (eLst (aCons (gOwn (eN (rOp pMod (rCl pInt (raCons (rOp pAdd (rVar 1) (rVar 2)) (raNil))) (rOp pIx (rVar 0) (rC (.int 2)))))) (aNil)))) (sNil)) (sSeq (sIf (bE (eN (rOp pEq (rVar 3) (rC (.str "less"))))) (sRet (eLst (aCons (gOwn (eN (rOp pMod (rCl pInt (raCons (rOp pSub (rVar 1) (rVar 2)) (raNil))) (rOp pIx (rVar 0) (rC (.int 2)))))) (aNil)))) (sNil)) (sSeq (sIf (bE (eN (rOp pEq (rVar 3) (rC (.str "roll"))))) (sRet (eLst (aCons (gOwn (eN (rOp pMod (rCl pInt (raCons (rOp pAdd (rOp pMul (rVar 1) (rOp pIx (rVar 0) (rC (.int 2)))) (rVar 2)) (raNil))) (rOp pIx (rVar 0) (rC (.int 3)))))) (aNil)))) (sNil)) (sSeq (sIf (bE (eN (rOp pEq (rVar 3) (rC (.str "turn"))))) (sRet (eLst (aCons (gOwn (eN (rOp pMod (rCl pInt (raCons (rOp pAdd (rVar 1) (rC (.int 1))) (raNil))) (rOp pIx (rVar 0) (rC (.int 2)))))) (aNil)))) (sNil)) (sRet (eLst (aCons (gOwn (eC (.int 1))) (aNil))))))))))
def m__law_lifted : FM := fnM 3 4 [] b_m__law_lifted
def b_m__law_behind : SM := sSeq (sAsg (eN (rCl pListP (raCons (rVar 2) (raNil)))) (tgN 4)) (sSeq (sIf (bAnd (bE (eN (rOp pEq (rOp pIx (rVar 0) (rC (.int 0))) (rC (.str "cell"))))) (bE (eN (rOp pNe (rVar 3) (rOp pIx (rVar 0) (rC (.int 1))))))) (sRet (eLst (aNil))) (sNil)) (sSeq (sIf (bAnd (bE (eN (rOp pEq (rOp pIx (rVar 0) (rC (.int 0))) (rC (.str "tell"))))) (bE (eN (rOp pNe (rVar 3) (rOp pMod (rCl pInt (raCons (rOp pDiv (rOp pIx (rVar 4) (rOp pIx (rVar 0) (rC (.int 1)))) (rOp pIx (rVar 0) (rC (.int 2)))) (raNil))) (rVar 1)))))) (sRet (eLst (aNil))) (sNil)) (sSeq (sIf (bE (eN (rOp pEq (rOp pIx (rVar 0) (rC (.int 0))) (rC (.str "keep"))))) (sSetIx 4 (rOp pIx (rVar 0) (rC (.int 1))) pSetL (eN (rOp pAdd (rOp pMul (rOp pIx (rVar 4) (rOp pIx (rVar 0) (rC (.int 1)))) (rVar 1)) (rVar 3)))) (sNil)) (sSeq (sFor (itS (eR (rOp pIx (rVar 0) (rUn pNeg (rC (.int 1)))))) (tgN 5) (sSeq (sAsg (eCall m__law_lifted (aCons (gRef 5) (aCons (gOwn (eR (rOp pIx (rVar 4) (rOp pIx (rVar 5) (rC (.int 1)))))) (aCons (gRef 3) (aNil))))) (tgN 6)) (sSeq (sIf (bE (eN (rOp pEq (rCl pLen (raCons (rVar 6) (raNil))) (rC (.int 0))))) (sRet (eLst (aNil))) (sNil)) (sSetIx 4 (rOp pIx (rVar 5) (rC (.int 1))) pSetL (eR (rOp pIx (rVar 6) (rC (.int 0)))))))) (sRet (eLst (aCons (gOwn (eN (rCl pTuple (raCons (rVar 4) (raNil))))) (aNil))))))))
def m__law_behind : FM := fnM 4 7 [] b_m__law_behind
def b_m__law_onward : SM := sSeq (sAsg (eR (rOp pIx (rVar 0) (rC (.int 0)))) (tgN 3)) (sSeq (sIf (bE (eN (rOp pEq (rVar 3) (rC (.str "never"))))) (sRet (eLst (aNil))) (sNil)) (sSeq (sIf (bE (eN (rOp pEq (rVar 3) (rC (.str "jump"))))) (sRet (eLst (aCons (gOwn (eTup (aCons (gOwn (eR (rOp pIx (rVar 0) (rC (.int 1))))) (aCons (gOwn (eVar 2)) (aNil))))) (aNil)))) (sNil)) (sSeq (sAsg (eR (rOp pIx (rVar 2) (rOp pIx (rVar 0) (rC (.int 1))))) (tgN 4)) (sSeq (sIf (bE (eN (rOp pEq (rVar 3) (rC (.str "round"))))) (sRet (eLst (aCons (gOwn (eTup (aCons (gOwn (eOp (fun x y => immO (pIx x y)) (gOwn (eTup (aCons (gOwn (eN (rOp pAdd (rVar 1) (rC (.int 1))))) (aCons (gOwn (eR (rOp pIx (rVar 0) (rC (.int 2))))) (aNil))))) (gOwn (eN (rCl pInt (raCons (rOp pEq (rVar 4) (rC (.int 0))) (raNil))))))) (aCons (gOwn (eVar 2)) (aNil))))) (aNil)))) (sNil)) (sSeq (sIf (bE (eN (rOp pEq (rVar 3) (rC (.str "check"))))) (sRet (eOp pMulL (gOwn (eLst (aCons (gOwn (eTup (aCons (gOwn (eN (rOp pAdd (rVar 1) (rC (.int 1))))) (aCons (gOwn (eVar 2)) (aNil))))) (aNil)))) (gOwn (eN (rCl pInt (raCons (rOp pEq (rVar 4) (rOp pIx (rVar 0) (rC (.int 2)))) (raNil))))))) (sNil)) (sSeq (sIf (bE (eN (rOp pEq (rVar 3) (rC (.str "within"))))) (sRet (eOp pMulL (gOwn (eLst (aCons (gOwn (eTup (aCons (gOwn (eN (rOp pAdd (rVar 1) (rC (.int 1))))) (aCons (gOwn (eVar 2)) (aNil))))) (aNil)))) (gOwn (eN (rCl pInt (raCons (rChain pLe pLe (rOp pIx (rVar 0) (rC (.int 2))) (rVar 4) (rOp pIx (rVar 0) (rC (.int 3)))) (raNil))))))) (sNil)) (sSeq (sIf (bE (eN (rOp pEq (rVar 3) (rC (.str "put"))))) (sAsg (eR (rOp pIx (rVar 0) (rC (.int 2)))) (tgN 4)) (sNil)) (sSeq (sIf (bE (eN (rOp pEq (rVar 3) (rC (.str "bump"))))) (sSeq (sAug 4 pAddI (eR (rOp pIx (rVar 0) (rC (.int 2))))) (sIf (bOr (bE (eN (rOp pLt (rVar 4) (rC (.int 0))))) (bE (eN (rOp pGt (rVar 4) (rOp pIx (rVar 0) (rC (.int 3))))))) (sRet (eLst (aNil))) (sNil))) (sNil)) (sRet (eLst (aCons (gOwn (eTup (aCons (gOwn (eN (rOp pAdd (rVar 1) (rC (.int 1))))) (aCons (gOwn (eOp pAdd (gOwn (eOp pAdd (gOwn (eSl pSl (gRef 2) (oNone) (oSome (eR (rOp pIx (rVar 0) (rC (.int 1))))))) (gOwn (eTup (aCons (gOwn (eVar 4)) (aNil)))))) (gOwn (eSl pSl (gRef 2) (oSome (eN (rOp pAdd (rOp pIx (rVar 0) (rC (.int 1))) (rC (.int 1))))) (oNone))))) (aNil))))) (aNil))))))))))))
def m__law_onward : FM := fnM 3 5 [] b_m__law_onward
def b_m__law_ways : SM := sSeq (sAsg (eLst (aNil)) (tgN 3)) (sSeq (sAsg (eLst (aCons (gOwn (eTup (aCons (gOwn (eTup (aNil))) (aCons (gOwn (eVar 1)) (aCons (gOwn (eVar 2)) (aNil)))))) (aNil))) (tgN 4)) (sSeq (sFor (itR1 (aCons (gOwn (eN (rOp pMul (rC (.int 2)) (rCl pLen (raCons (rVar 0) (raNil)))))) (aNil))) (tgN 5) (sSeq (sAsg (eLst (aNil)) (tgN 6)) (sSeq (sForVS 4 (tgT 3 (tgsCons (tgN 7) (tgsCons (tgN 8) (tgsCons (tgN 9) (tgsNil))))) (sSeq (sAsg (eR (rOp pIx (rVar 0) (rVar 8))) (tgN 10)) (sIf (bE (eOp pIn (gOwn (eR (rOp pIx (rVar 10) (rC (.int 0))))) (gOwn (eTup (aCons (gOwn (eC (.str "cell"))) (aCons (gOwn (eC (.str "any"))) (aCons (gOwn (eC (.str "keep"))) (aCons (gOwn (eC (.str "tell"))) (aCons (gOwn (eC (.str "end"))) (aNil)))))))))) (sExpr (eMeth "list" 3 pAppend (aCons (gOwn (eTup (aCons (gOwn (eVar 7)) (aCons (gOwn (eTup (aCons (gOwn (eVar 8)) (aCons (gOwn (eVar 9)) (aNil))))) (aNil))))) (aNil)))) (sIf (bE (eN (rOp pEq (rOp pIx (rVar 10) (rC (.int 0))) (rC (.str "fork"))))) (sExpr (eMethB "list" 6 pExtend (aCons (gOwn (eLC (itR1 (aCons (gOwn (eN (rCl pLen (raCons (rOp pIx (rVar 10) (rC (.int 1))) (raNil))))) (aNil))) [11] (tgN 11) (bYes) (eTup (aCons (gOwn (eOp pAdd (gRef 7) (gOwn (eTup (aCons (gOwn (eVar 11)) (aNil)))))) (aCons (gOwn (eR (rOp pIx (rOp pIx (rVar 10) (rC (.int 1))) (rVar 11)))) (aCons (gOwn (eVar 9)) (aNil))))))) (aNil)))) (sExpr (eMethB "list" 6 pExtend (aCons (gOwn (eLC (itS (eCall m__law_onward (aCons (gRef 10) (aCons (gRef 8) (aCons (gRef 9) (aNil)))))) [12] (tgN 12) (bYes) (eTup (aCons (gOwn (eVar 7)) (aCons (gOwn (eR (rOp pIx (rVar 12) (rC (.int 0))))) (aCons (gOwn (eR (rOp pIx (rVar 12) (rC (.int 1))))) (aNil))))))) (aNil)))))))) (sAsg (eVar 6) (tgN 4))))) (sRet (eN (rCl pTuple (raCons (rCl pSorted (raCons (rVar 3) (raNil))) (raNil)))))))
def m__law_ways : FM := fnM 3 13 [] b_m__law_ways
def b_m__law_due : SM := sSeq (sAsg (eLst (aNil)) (tgN 4)) (sSeq (sFor (itR1 (aCons (gRef 1) (aNil))) (tgN 5) (sIf (bE (eN (rOp pNe (rOp pIx (rOp pIx (rVar 0) (rVar 2)) (rC (.int 0))) (rC (.str "end"))))) (sFor (itS (eCall m__law_behind (aCons (gOwn (eR (rOp pIx (rVar 0) (rVar 2)))) (aCons (gRef 1) (aCons (gRef 3) (aCons (gRef 5) (aNil))))))) (tgN 6) (sExpr (eMethB "list" 4 pExtend (aCons (gOwn (eLC (itS (eCall m__law_ways (aCons (gRef 0) (aCons (gOwn (eN (rOp pAdd (rVar 2) (rC (.int 1))))) (aCons (gRef 6) (aNil)))))) [7] (tgN 7) (bYes) (eTup (aCons (gOwn (eVar 5)) (aCons (gOwn (eR (rOp pIx (rVar 7) (rC (.int 0))))) (aCons (gOwn (eR (rOp pIx (rVar 7) (rC (.int 1))))) (aNil))))))) (aNil))))) (sNil))) (sRet (eN (rCl pTuple (raCons (rVar 4) (raNil))))))
def m__law_due : FM := fnM 4 8 [] b_m__law_due
def b_m_cells_for : SM := sSeq (sIf (bE (eN (rOp pEq (rOp pIx (rVar 0) (rC (.int 0))) (rC (.str "cell"))))) (sRet (eLst (aCons (gOwn (eR (rOp pIx (rVar 0) (rC (.int 1))))) (aNil)))) (sNil)) (sSeq (sIf (bE (eN (rOp pEq (rOp pIx (rVar 0) (rC (.int 0))) (rC (.str "tell"))))) (sRet (eLst (aCons (gOwn (eN (rOp pMod (rCl pInt (raCons (rOp pDiv (rOp pIx (rVar 2) (rOp pIx (rVar 0) (rC (.int 1)))) (rOp pIx (rVar 0) (rC (.int 2)))) (raNil))) (rVar 1)))) (aNil)))) (sNil)) (sRet (eLR1 (eVar 1))))
def m_cells_for : FM := fnM 3 3 [] b_m_cells_for
def b_m_raised_by : SM := sSeq (sAsg (eR (rOp pIx (rVar 0) (rC (.int 0)))) (tgN 3)) (sSeq (sIf (bE (eN (rOp pEq (rVar 3) (rC (.str "up"))))) (sSeq (sAug 1 pAddI (eC (.int 1))) (sSeq (sIf (bE (eN (rOp pGt (rVar 1) (rOp pIx (rVar 0) (rC (.int 2)))))) (sRet (eC .non)) (sNil)) (sRet (eVar 1)))) (sNil)) (sSeq (sIf (bE (eN (rOp pEq (rVar 3) (rC (.str "down"))))) (sSeq (sIf (bE (eN (rOp pEq (rVar 1) (rC (.int 0))))) (sRet (eC .non)) (sNil)) (sRet (eN (rOp pSub (rVar 1) (rC (.int 1)))))) (sNil)) (sSeq (sIf (bE (eN (rOp pEq (rVar 3) (rC (.str "add"))))) (sRet (eN (rOp pMod (rCl pInt (raCons (rOp pAdd (rVar 1) (rVar 2)) (raNil))) (rOp pIx (rVar 0) (rC (.int 2)))))) (sNil)) (sSeq (sIf (bE (eN (rOp pEq (rVar 3) (rC (.str "less"))))) (sRet (eN (rOp pMod (rCl pInt (raCons (rOp pSub (rVar 1) (rVar 2)) (raNil))) (rOp pIx (rVar 0) (rC (.int 2)))))) (sNil)) (sSeq (sIf (bE (eN (rOp pEq (rVar 3) (rC (.str "roll"))))) (sRet (eN (rOp pMod (rCl pInt (raCons (rOp pAdd (rOp pMul (rVar 1) (rOp pIx (rVar 0) (rC (.int 2)))) (rVar 2)) (raNil))) (rOp pIx (rVar 0) (rC (.int 3)))))) (sNil)) (sSeq (sIf (bE (eN (rOp pEq (rVar 3) (rC (.str "turn"))))) (sRet (eN (rOp pMod (rCl pInt (raCons (rOp pAdd (rVar 1) (rC (.int 1))) (raNil))) (rOp pIx (rVar 0) (rC (.int 2)))))) (sNil)) (sRet (eC (.int 1)))))))))
def m_raised_by : FM := fnM 3 4 [1] b_m_raised_by
def b_m_counted : SM := sSeq (sAsg (eN (rCl pListP (raCons (rVar 2) (raNil)))) (tgN 4)) (sSeq (sIf (bE (eN (rOp pEq (rOp pIx (rVar 0) (rC (.int 0))) (rC (.str "keep"))))) (sSetIx 4 (rOp pIx (rVar 0) (rC (.int 1))) pSetL (eN (rOp pAdd (rOp pMul (rOp pIx (rVar 4) (rOp pIx (rVar 0) (rC (.int 1)))) (rVar 1)) (rVar 3)))) (sNil)) (sSeq (sFor (itS (eR (rOp pIx (rVar 0) (rUn pNeg (rC (.int 1)))))) (tgN 5) (sSeq (sAsg (eCall m_raised_by (aCons (gRef 5) (aCons (gOwn (eR (rOp pIx (rVar 4) (rOp pIx (rVar 5) (rC (.int 1)))))) (aCons (gRef 3) (aNil))))) (tgN 6)) (sSeq (sIf (bE (eN (rOp pIsN (rVar 6) (rC .non)))) (sRet (eC .non)) (sNil)) (sSetIx 4 (rOp pIx (rVar 5) (rC (.int 1))) pSetL (eVar 6))))) (sRet (eN (rCl pTuple (raCons (rVar 4) (raNil)))))))
def m_counted : FM := fnM 4 7 [] b_m_counted
def b_m_with_content : SM := sRet (eOp pAdd (gOwn (eOp pAdd (gOwn (eSl pSl (gRef 0) (oNone) (oSome (eVar 1)))) (gOwn (eTup (aCons (gOwn (eVar 2)) (aNil)))))) (gOwn (eSl pSl (gRef 0) (oSome (eN (rOp pAdd (rVar 1) (rC (.int 1))))) (oNone))))
def m_with_content : FM := fnM 3 3 [] b_m_with_content
def b_m_passed : SM := sSeq (sAsg (eR (rOp pIx (rVar 0) (rC (.int 0)))) (tgN 3)) (sSeq (sIf (bE (eN (rOp pEq (rVar 3) (rC (.str "jump"))))) (sRet (eTup (aCons (gOwn (eR (rOp pIx (rVar 0) (rC (.int 1))))) (aCons (gOwn (eVar 2)) (aNil))))) (sNil)) (sSeq (sIf (bE (eN (rOp pEq (rVar 3) (rC (.str "never"))))) (sRet (eC .non)) (sNil)) (sSeq (sAsg (eR (rOp pIx (rVar 2) (rOp pIx (rVar 0) (rC (.int 1))))) (tgN 4)) (sSeq (sIf (bE (eN (rOp pEq (rVar 3) (rC (.str "round"))))) (sSeq (sIf (bE (eN (rOp pEq (rVar 4) (rC (.int 0))))) (sRet (eTup (aCons (gOwn (eR (rOp pIx (rVar 0) (rC (.int 2))))) (aCons (gOwn (eVar 2)) (aNil))))) (sNil)) (sRet (eTup (aCons (gOwn (eN (rOp pAdd (rVar 1) (rC (.int 1))))) (aCons (gOwn (eVar 2)) (aNil)))))) (sNil)) (sSeq (sIf (bAnd (bE (eN (rOp pEq (rVar 3) (rC (.str "check"))))) (bE (eN (rOp pNe (rVar 4) (rOp pIx (rVar 0) (rC (.int 2))))))) (sRet (eC .non)) (sNil)) (sSeq (sIf (bAnd (bE (eN (rOp pEq (rVar 3) (rC (.str "within"))))) (bNot (bE (eR (rChain pLe pLe (rOp pIx (rVar 0) (rC (.int 2))) (rVar 4) (rOp pIx (rVar 0) (rC (.int 3)))))))) (sRet (eC .non)) (sNil)) (sSeq (sIf (bE (eN (rOp pEq (rVar 3) (rC (.str "put"))))) (sRet (eTup (aCons (gOwn (eN (rOp pAdd (rVar 1) (rC (.int 1))))) (aCons (gOwn (eCall m_with_content (aCons (gRef 2) (aCons (gOwn (eR (rOp pIx (rVar 0) (rC (.int 1))))) (aCons (gOwn (eR (rOp pIx (rVar 0) (rC (.int 2))))) (aNil)))))) (aNil))))) (sNil)) (sSeq (sIf (bE (eN (rOp pEq (rVar 3) (rC (.str "bump"))))) (sSeq (sAug 4 pAddI (eR (rOp pIx (rVar 0) (rC (.int 2))))) (sSeq (sIf (bNot (bE (eR (rChain pLe pLe (rC (.int 0)) (rVar 4) (rOp pIx (rVar 0) (rC (.int 3))))))) (sRet (eC .non)) (sNil)) (sRet (eTup (aCons (gOwn (eN (rOp pAdd (rVar 1) (rC (.int 1))))) (aCons (gOwn (eCall m_with_content (aCons (gRef 2) (aCons (gOwn (eR (rOp pIx (rVar 0) (rC (.int 1))))) (aCons (gRef 4) (aNil)))))) (aNil))))))) (sNil)) (sRet (eTup (aCons (gOwn (eN (rOp pAdd (rVar 1) (rC (.int 1))))) (aCons (gOwn (eVar 2)) (aNil)))))))))))))
def m_passed : FM := fnM 3 5 [] b_m_passed
def b_m_settle : SM := sSeq (sAsg (eLst (aNil)) (tgN 3)) (sSeq (sAsg (eLst (aCons (gOwn (eTup (aCons (gOwn (eVar 1)) (aCons (gOwn (eVar 2)) (aCons (gOwn (eTup (aNil))) (aNil)))))) (aNil))) (tgN 4)) (sSeq (sAsg (eC (.int 0)) (tgN 5)) (sSeq (whileL (bTru (rVar 4)) (sSeq (sAsg (eMeth0 "list" 4 pPop) (tgT 3 (tgsCons (tgN 1) (tgsCons (tgN 2) (tgsCons (tgN 7) (tgsNil)))))) (sSeq (sAug 5 pAddI (eC (.int 1))) (sSeq (sIf (bE (eN (rOp pGt (rVar 5) (rC (.int 5000))))) (sRaise "TooMany" ["what"] (aCons (gOwn (eC (.str "ways"))) (aNil))) (sNil)) (sSeq (sAsg (eR (rOp pIx (rVar 0) (rVar 1))) (tgN 6)) (sIf (bOr (bE (eN (rOp pIn (rOp pIx (rVar 6) (rC (.int 0))) (rC (.tup [(.str "cell"), (.str "any"), (.str "keep"), (.str "tell")]))))) (bE (eN (rOp pEq (rOp pIx (rVar 6) (rC (.int 0))) (rC (.str "end")))))) (sExpr (eMeth "list" 3 pAppend (aCons (gOwn (eTup (aCons (gOwn (eVar 7)) (aCons (gOwn (eTup (aCons (gOwn (eVar 1)) (aCons (gOwn (eVar 2)) (aNil))))) (aNil))))) (aNil)))) (sIf (bE (eN (rOp pEq (rOp pIx (rVar 6) (rC (.int 0))) (rC (.str "fork"))))) (sFor (itRv (eN (rCl pLen (raCons (rOp pIx (rVar 6) (rC (.int 1))) (raNil))))) (tgN 8) (sExpr (eMeth "list" 4 pAppend (aCons (gOwn (eTup (aCons (gOwn (eR (rOp pIx (rOp pIx (rVar 6) (rC (.int 1))) (rVar 8)))) (aCons (gOwn (eVar 2)) (aCons (gOwn (eOp pAdd (gRef 7) (gOwn (eTup (aCons (gOwn (eVar 8)) (aNil)))))) (aNil)))))) (aNil))))) (sSeq (sAsg (eCall m_passed (aCons (gRef 6) (aCons (gRef 1) (aCons (gRef 2) (aNil))))) (tgN 9)) (sIf (bE (eN (rOp pNotN (rVar 9) (rC .non)))) (sExpr (eMeth "list" 4 pAppend (aCons (gOwn (eTup (aCons (gOwn (eR (rOp pIx (rVar 9) (rC (.int 0))))) (aCons (gOwn (eR (rOp pIx (rVar 9) (rC (.int 1))))) (aCons (gOwn (eVar 7)) (aNil)))))) (aNil)))) (sNil))))))))) 100000) (sRet (eN (rCl pTuple (raCons (rVar 3) (raNil))))))))
def m_settle : FM := fnM 3 10 [1, 2] b_m_settle
def b_m_moves : SM := sSeq (sAsg (eVar 2) (tgT 2 (tgsCons (tgN 6) (tgsCons (tgN 7) (tgsNil))))) (sSeq (sAsg (eR (rOp pIx (rVar 0) (rVar 6))) (tgN 3)) (sSeq (sAsg (eLst (aNil)) (tgN 4)) (sSeq (sIf (bE (eN (rOp pEq (rOp pIx (rVar 3) (rC (.int 0))) (rC (.str "end"))))) (sRet (eTup (aNil))) (sNil)) (sSeq (sFor (itS (eCall m_cells_for (aCons (gRef 3) (aCons (gRef 1) (aCons (gRef 7) (aNil)))))) (tgN 5) (sSeq (sAsg (eCall m_counted (aCons (gRef 3) (aCons (gRef 1) (aCons (gRef 7) (aCons (gRef 5) (aNil)))))) (tgN 8)) (sIf (bE (eN (rOp pNotN (rVar 8) (rC .non)))) (sFor (itS (eCall m_settle (aCons (gRef 0) (aCons (gOwn (eN (rOp pAdd (rVar 6) (rC (.int 1))))) (aCons (gRef 8) (aNil)))))) (tgT 2 (tgsCons (tgN 9) (tgsCons (tgN 10) (tgsNil)))) (sExpr (eMeth "list" 4 pAppend (aCons (gOwn (eTup (aCons (gOwn (eVar 5)) (aCons (gOwn (eVar 9)) (aCons (gOwn (eVar 10)) (aNil)))))) (aNil))))) (sNil)))) (sRet (eN (rCl pTuple (raCons (rVar 4) (raNil)))))))))
def m_moves : FM := fnM 3 11 [] b_m_moves
def b_m__law_holds : SM := sSeq (sAsg (eVar 0) (tgT 3 (tgsCons (tgN 2) (tgsCons (tgN 3) (tgsCons (tgN 4) (tgsNil)))))) (sRet (eCall (m__law_same 8) (aCons (gOwn (eCall m__law_due (aCons (gRef 4) (aCons (gRef 2) (aCons (gOwn (eR (rOp pIx (rVar 1) (rC (.int 0))))) (aCons (gOwn (eR (rOp pIx (rVar 1) (rC (.int 1))))) (aNil))))))) (aCons (gOwn (eCall m_moves (aCons (gRef 4) (aCons (gRef 2) (aCons (gRef 1) (aNil)))))) (aNil)))))
def m__law_holds : FM := fnM 2 5 [] b_m__law_holds
def b_m_law : SM := sSeq (sAsg (eCall m__law_begin (aCons (gRef 0) (aNil))) (tgN 1)) (sSeq (sAsg (eCall m__law_row_of_steps (aCons (gRef 1) (aNil))) (tgN 2)) (sSeq (sAsg (eCall m__law_row_of_steps (aCons (gRef 1) (aNil))) (tgN 3)) (sSeq (sAsg (eCall m__law_standing (aCons (gRef 1) (aCons (gRef 2) (aNil)))) (tgN 4)) (sSeq (sIf (bNot (bE (eCall m__law_holds (aCons (gRef 2) (aCons (gRef 4) (aNil)))))) (sRet (eC (.bl false))) (sNil)) (sSeq (sFor (itR1 (aCons (gOwn (eC (.int 3))) (aNil))) (tgN 5) (sSeq (sIf (bNot (bE (eCall m__law_holds (aCons (gRef 3) (aCons (gOwn (eCall m__law_standing (aCons (gRef 1) (aCons (gRef 3) (aNil))))) (aNil)))))) (sRet (eC (.bl false))) (sNil)) (sIf (bNot (bE (eCall m__law_holds (aCons (gRef 2) (aCons (gOwn (eCall m__law_standing (aCons (gRef 1) (aCons (gRef 2) (aNil))))) (aNil)))))) (sRet (eC (.bl false))) (sNil)))) (sSeq (sAsg (eTup (aCons (gOwn (eN (rOp pSub (rCl pLen (raCons (rOp pIx (rVar 2) (rC (.int 2))) (raNil))) (rC (.int 1))))) (aCons (gOwn (eR (rOp pIx (rVar 4) (rC (.int 1))))) (aNil)))) (tgN 6)) (sRet (eAnd (eOp pEq (gOwn (eCall m_moves (aCons (gOwn (eR (rOp pIx (rVar 2) (rC (.int 2))))) (aCons (gOwn (eR (rOp pIx (rVar 2) (rC (.int 0))))) (aCons (gRef 6) (aNil)))))) (gOwn (eTup (aNil)))) (eAnd (eCall m__law_holds (aCons (gRef 2) (aCons (gRef 6) (aNil)))) (eCall m__law_holds (aCons (gRef 2) (aCons (gRef 4) (aNil)))))))))))))
def m_law : FM := fnM 1 7 [] b_m_law
/-! ### each def does as its pure function says -/
section
variable {P : Program} {w : World} {K : PySem.W.Frag} {mg : Str → Option Value} {base : Heap}
theorem b_abs : bootBuiltins "abs" = some (.builtin "abs") := by decide +kernel
theorem b_bool : bootBuiltins "bool" = some (.type "bool") := by decide +kernel
theorem b_int : bootBuiltins "int" = some (.type "int") := by decide +kernel
theorem b_isinstance : bootBuiltins "isinstance" = some (.builtin "isinstance") := by decide +kernel
theorem b_len : bootBuiltins "len" = some (.builtin "len") := by decide +kernel
theorem b_list : bootBuiltins "list" = some (.type "list") := by decide +kernel
theorem b_sorted : bootBuiltins "sorted" = some (.builtin "sorted") := by decide +kernel
theorem b_str : bootBuiltins "str" = some (.type "str") := by decide +kernel
theorem b_tuple : bootBuiltins "tuple" = some (.type "tuple") := by decide +kernel
theorem sc__law_begin : FnScope ["script", "cell"] ["script"] (defScope s__law_begin) := ⟨rfl, rfl, rfl, by decide +kernel, rfl, by decide +kernel, by decide +kernel⟩
theorem ok__law_begin {f__law_begin : Addr} {fd__law_begin : FuncData} (F__law_begin : L2.Fun K "_law_begin" "_law_begin" s__law_begin f__law_begin fd__law_begin) (hm__law_begin : mg "_law_begin" = some (.ref f__law_begin)) (hb__law_begin : Binds K fd__law_begin ["script"] []) (z_int : mg "int" = none) : Cal P w K mg base "_law_begin" 2 1 m__law_begin :=
  cal_of (k := 1) F__law_begin hm__law_begin hb__law_begin sc__law_begin rfl rfl (fun cdv A outer s H E hr => ⟨_, jss_one (js_ret (S := []) (j_lst (ja_cons (jg (j_lc (own := [("cell", 1)]) rfl sc__law_begin.nd (k_s K (k_sl K (jg_var 0) (jo_none) (jo_some (j_int)))) (by show blkC ["script", "cell"] (defScope s__law_begin) _ [("cell", 1)] = true; decide +kernel) (fun s H C cl fp => jp_n 1 sc__law_begin.nd) (by decide) (fun s H C cl fp => jtt_nil) (fun s H C cl fp => jn_callTy (sim_int (K := K)) call_intP b_int z_int (jra_cons (jr_var 1) (jra_nil))))) (ja_cons (jg (j_int)) (ja_cons (jg (j_int)) (ja_cons (jg (j_int)) (ja_nil)))))))⟩) (by decide)
theorem sc__law_draw : FnScope ["d", "many", "size", "found", "cell"] ["d", "many"] (defScope s__law_draw) := ⟨rfl, rfl, rfl, by decide +kernel, rfl, by decide +kernel, by decide +kernel⟩
theorem ok__law_draw {f__law_draw : Addr} {fd__law_draw : FuncData} (F__law_draw : L2.Fun K "_law_draw" "_law_draw" s__law_draw f__law_draw fd__law_draw) (hm__law_draw : mg "_law_draw" = some (.ref f__law_draw)) (hb__law_draw : Binds K fd__law_draw ["d", "many"] []) (z_abs : mg "abs" = none) (z_int : mg "int" = none) (z_len : mg "len" = none) : Cal P w K mg base "_law_draw" 2 2 m__law_draw :=
  cal_of (k := 1) F__law_draw hm__law_draw hb__law_draw sc__law_draw rfl rfl (fun cdv A outer s H E hr => ⟨_, jss_cons (js_if (jnt_cmp (sim_B0 (K := K)) op_gt (by rfl) (jr_ix (sim_ix (K := K)) ix_seq (jr_var 0) (jr_int)) (jr_int)) (jss_cons (js_set 3 sc__law_draw.nd (j_r (jr_ix (sim_ix (K := K)) ix_seq (jr_var 0) (jr_int)))) (jss_cons (js_setIx (S := []) (i := 0) (sim_setL (K := K)) set_list (jn_op (sim_I (K := K)) op_fdiv (jr_var 3) (jr_var 1)) (jr_var 0) (jr_int)) (jss_one (js_ret (S := []) (jn_op (sim_I (K := K)) op_mod (jr_callTy (sim_int (K := K)) call_intP b_int z_int (jra_cons (jr_var 3) (jra_nil))) (jr_var 1)))))) (jss_nil (S := []))) (jss_cons (js_set 2 sc__law_draw.nd (j_int)) (jss_cons (js_if (jnt_cmp (sim_B0 (K := K)) op_lt (by rfl) (jr_ix (sim_ix (K := K)) ix_seq (jr_var 0) (jr_int)) (jr_callB (sim_len (K := K)) call_len b_len z_len (jra_cons (jr_ix (sim_ix (K := K)) ix_seq (jr_var 0) (jr_int)) (jra_nil)))) (jss_cons (js_set 4 sc__law_draw.nd (j_r (jr_ix (sim_ix (K := K)) ix_seq (jr_ix (sim_ix (K := K)) ix_seq (jr_var 0) (jr_int)) (jr_ix (sim_ix (K := K)) ix_seq (jr_var 0) (jr_int))))) (jss_one (js_set 2 sc__law_draw.nd (jn_op (sim_add (K := K)) op_addP (jr_op (sim_I (K := K)) op_mul (jr_int) (jr_callB (sim_abs (K := K)) call_abs b_abs z_abs (jra_cons (jr_var 4) (jra_nil)))) (jr_callTy (sim_int (K := K)) call_intP b_int z_int (jra_cons (jr_cmp (sim_B0 (K := K)) op_lt (by rfl) (jr_var 4) (jr_int)) (jra_nil))))))) (jss_nil (S := []))) (jss_cons (js_augIx (S := []) (i := 0) (sim_ixL (K := K)) get_listL (sim_addI (K := K)) ip_addP (sim_setL (K := K)) set_list (jr_var 0) (jr_int) (j_int)) (jss_cons (js_if (jnt_cmp (sim_B0 (K := K)) op_ge (by rfl) (jr_var 2) (jr_op (sim_I (K := K)) op_mul (jr_int) (jr_op (sim_I (K := K)) op_pow (jr_int) (jr_int)))) (jss_cons (js_set 3 sc__law_draw.nd (jn_op (sim_I (K := K)) op_mod (jr_callTy (sim_int (K := K)) call_intP b_int z_int (jra_cons (jr_op (sim_I (K := K)) op_fdiv (jr_var 2) (jr_int)) (jra_nil))) (jr_op (sim_I (K := K)) op_shl (jr_int) (jr_int)))) (jss_cons (js_setIx (S := []) (i := 0) (sim_setL (K := K)) set_list (jn_op (sim_I (K := K)) op_fdiv (jr_var 3) (jr_var 1)) (jr_var 0) (jr_int)) (jss_one (js_ret (S := []) (jn_op (sim_I (K := K)) op_mod (jr_callTy (sim_int (K := K)) call_intP b_int z_int (jra_cons (jr_var 3) (jra_nil))) (jr_var 1)))))) (jss_nil (S := []))) (jss_cons (js_setIx (S := []) (i := 0) (sim_setL (K := K)) set_list (jn_op (sim_I (K := K)) op_mod (jr_callTy (sim_int (K := K)) call_intP b_int z_int (jra_cons (jr_op (sim_add (K := K)) op_addP (jr_op (sim_add (K := K)) op_addP (jr_op (sim_add (K := K)) op_addP (jr_op (sim_I (K := K)) op_mul (jr_ix (sim_ix (K := K)) ix_seq (jr_var 0) (jr_int)) (jr_int)) (jr_op (sim_I (K := K)) op_mul (jr_op (sim_I (K := K)) op_mod (jr_callTy (sim_int (K := K)) call_intP b_int z_int (jra_cons (jr_var 2) (jra_nil))) (jr_int)) (jr_int))) (jr_op (sim_I (K := K)) op_mul (jr_ix (sim_ix (K := K)) ix_seq (jr_var 0) (jr_int)) (jr_int))) (jr_int)) (jra_nil))) (jr_int)) (jr_var 0) (jr_int)) (jss_one (js_ret (S := []) (jn_op (sim_I (K := K)) op_mod (jr_callTy (sim_int (K := K)) call_intP b_int z_int (jra_cons (jr_op (sim_I (K := K)) op_fdiv (jr_ix (sim_ix (K := K)) ix_seq (jr_var 0) (jr_int)) (jr_int)) (jra_nil))) (jr_var 1)))))))))⟩) (by decide)
theorem sc__law_pick : FnScope ["d", "row"] ["d", "row"] (defScope s__law_pick) := ⟨rfl, rfl, rfl, by decide +kernel, rfl, by decide +kernel, by decide +kernel⟩
theorem ok__law_pick {f__law_pick : Addr} {fd__law_pick : FuncData} (F__law_pick : L2.Fun K "_law_pick" "_law_pick" s__law_pick f__law_pick fd__law_pick) (hm__law_pick : mg "_law_pick" = some (.ref f__law_pick)) (hb__law_pick : Binds K fd__law_pick ["d", "row"] []) (c__law_draw : Cal P w K mg base "_law_draw" 2 2 m__law_draw) (z_len : mg "len" = none) : Cal P w K mg base "_law_pick" 3 2 m__law_pick :=
  cal_of (k := 2) F__law_pick hm__law_pick hb__law_pick sc__law_pick rfl rfl (fun cdv A outer s H E hr => ⟨_, jss_one (js_ret (S := []) (j_ix (sim_ix (K := K)) ix_seq (jg_var 1) (jg (k_fn K mg c__law_draw (hr.mono (by decide)) (takes_of rfl rfl rfl rfl) (ja_cons (jg_var 0) (ja_cons (jg (jn_callB (sim_len (K := K)) call_len b_len z_len (jra_cons (jr_var 1) (jra_nil)))) (ja_nil)))))))⟩) (by decide)
theorem sc__law_taking : FnScope ["d", "base", "many", "ups", "k", "label", "counter", "most", "by"] ["d", "base", "many"] (defScope s__law_taking) := ⟨rfl, rfl, rfl, by decide +kernel, rfl, by decide +kernel, by decide +kernel⟩
theorem ok__law_taking {f__law_taking : Addr} {fd__law_taking : FuncData} (F__law_taking : L2.Fun K "_law_taking" "_law_taking" s__law_taking f__law_taking fd__law_taking) (hm__law_taking : mg "_law_taking" = some (.ref f__law_taking)) (hb__law_taking : Binds K fd__law_taking ["d", "base", "many"] []) (c__law_draw : Cal P w K mg base "_law_draw" 2 2 m__law_draw) (c__law_pick : Cal P w K mg base "_law_pick" 3 2 m__law_pick) (z_range : mg "range" = none) (z_tuple : mg "tuple" = none) : Cal P w K mg base "_law_taking" 4 3 m__law_taking :=
  cal_of (k := 3) F__law_taking hm__law_taking hb__law_taking sc__law_taking rfl rfl (fun cdv A outer s H E hr => ⟨_, jss_cons (js_set 3 sc__law_taking.nd (j_lst (ja_nil))) (jss_cons (js_for (passes_of rfl) rfl (ji_r1 z_range (ja_cons (jg (k_fn K mg c__law_draw (hr.mono (by decide)) (takes_of rfl rfl rfl rfl) (ja_cons (jg_var 0) (ja_cons (jg (j_int)) (ja_nil))))) (ja_nil))) (jp_n 4 sc__law_taking.nd) (jss_cons (js_set 6 sc__law_taking.nd (k_fn K mg c__law_draw (hr.mono (by decide)) (takes_of rfl rfl rfl rfl) (ja_cons (jg_var 0) (ja_cons (jg_var 2) (ja_nil))))) (jss_cons (js_set 7 sc__law_taking.nd (k_fn K mg c__law_draw (hr.mono (by decide)) (takes_of rfl rfl rfl rfl) (ja_cons (jg_var 0) (ja_cons (jg (j_int)) (ja_nil))))) (jss_cons (js_set 8 sc__law_taking.nd (j_op (sim_add (K := K)) op_addP (jg (j_int)) (jg (k_fn K mg c__law_draw (hr.mono (by decide)) (takes_of rfl rfl rfl rfl) (ja_cons (jg_var 0) (ja_cons (jg (j_int)) (ja_nil))))))) (jss_one (js_expr (S := []) (k_meth K PySem.F.plainAttrs_list PySem.F.slot_list_append PySem.F.type_list_append (sim_append (K := K)) mt_append (jr_var 3) (ja_cons (jg (k_fn K mg c__law_pick (hr.mono (by decide)) (takes_of rfl rfl rfl rfl) (ja_cons (jg_var 0) (ja_cons (jg (j_lst (ja_cons (jg (j_tup (ja_cons (jg (j_str)) (ja_cons (jg (j_var 6)) (ja_cons (jg (j_var 7)) (ja_nil)))))) (ja_cons (jg (j_tup (ja_cons (jg (j_str)) (ja_cons (jg (j_var 6)) (ja_nil))))) (ja_cons (jg (j_tup (ja_cons (jg (j_str)) (ja_cons (jg (j_var 6)) (ja_cons (jg (jn_op (sim_add (K := K)) op_addP (jr_int) (jr_var 7))) (ja_nil)))))) (ja_cons (jg (j_tup (ja_cons (jg (j_str)) (ja_cons (jg (j_var 6)) (ja_cons (jg (jn_op (sim_add (K := K)) op_addP (jr_int) (jr_var 7))) (ja_nil)))))) (ja_cons (jg (j_tup (ja_cons (jg (j_str)) (ja_cons (jg (j_var 6)) (ja_cons (jg (j_var 8)) (ja_cons (jg (jn_op (sim_add (K := K)) op_addP (jr_int) (jr_var 7))) (ja_nil))))))) (ja_cons (jg (j_tup (ja_cons (jg (j_str)) (ja_cons (jg (j_var 6)) (ja_cons (jg (jn_op (sim_add (K := K)) op_addP (jr_int) (jr_var 7))) (ja_nil)))))) (ja_cons (jg (j_tup (ja_cons (jg (j_str)) (ja_cons (jg (j_var 6)) (ja_nil))))) (ja_nil)))))))))) (ja_nil))))) (ja_nil))))))))) (jss_cons (js_set 5 sc__law_taking.nd (k_fn K mg c__law_pick (hr.mono (by decide)) (takes_of rfl rfl rfl rfl) (ja_cons (jg_var 0) (ja_cons (jg (j_lst (ja_cons (jg (j_str)) (ja_cons (jg (j_str)) (ja_cons (jg (j_str)) (ja_cons (jg (j_str)) (ja_nil))))))) (ja_nil))))) (jss_cons (js_set 6 sc__law_taking.nd (k_fn K mg c__law_draw (hr.mono (by decide)) (takes_of rfl rfl rfl rfl) (ja_cons (jg_var 0) (ja_cons (jg_var 2) (ja_nil))))) (jss_one (js_ret (S := []) (k_fn K mg c__law_pick (hr.mono (by decide)) (takes_of rfl rfl rfl rfl) (ja_cons (jg_var 0) (ja_cons (jg (j_lst (ja_cons (jg (j_tup (ja_cons (jg (j_str)) (ja_cons (jg (k_fn K mg c__law_draw (hr.mono (by decide)) (takes_of rfl rfl rfl rfl) (ja_cons (jg_var 0) (ja_cons (jg_var 1) (ja_nil))))) (ja_cons (jg (j_var 5)) (ja_cons (jg (jn_callTy (sim_tuple (K := K)) call_tuple_of b_tuple z_tuple (jra_cons (jr_var 3) (jra_nil)))) (ja_nil))))))) (ja_cons (jg (j_tup (ja_cons (jg (j_str)) (ja_cons (jg (j_var 5)) (ja_cons (jg (jn_callTy (sim_tuple (K := K)) call_tuple_of b_tuple z_tuple (jra_cons (jr_var 3) (jra_nil)))) (ja_nil)))))) (ja_cons (jg (j_tup (ja_cons (jg (j_str)) (ja_cons (jg (j_var 6)) (ja_cons (jg (j_var 5)) (ja_cons (jg (jn_callTy (sim_tuple (K := K)) call_tuple_of b_tuple z_tuple (jra_cons (jr_var 3) (jra_nil)))) (ja_nil))))))) (ja_cons (jg (j_tup (ja_cons (jg (j_str)) (ja_cons (jg (j_var 6)) (ja_cons (jg (k_fn K mg c__law_pick (hr.mono (by decide)) (takes_of rfl rfl rfl rfl) (ja_cons (jg_var 0) (ja_cons (jg (j_lst (ja_cons (jg (j_int)) (ja_cons (jg (j_var 1)) (ja_cons (jg (jn_op (sim_I (K := K)) op_mul (jr_var 1) (jr_var 1))) (ja_nil)))))) (ja_nil))))) (ja_cons (jg (j_var 5)) (ja_cons (jg (jn_callTy (sim_tuple (K := K)) call_tuple_of b_tuple z_tuple (jra_cons (jr_var 3) (jra_nil)))) (ja_nil)))))))) (ja_nil))))))) (ja_nil)))))))))⟩) (by decide)
theorem sc__law_rare : FnScope ["d", "many"] ["d", "many"] (defScope s__law_rare) := ⟨rfl, rfl, rfl, by decide +kernel, rfl, by decide +kernel, by decide +kernel⟩
theorem ok__law_rare {f__law_rare : Addr} {fd__law_rare : FuncData} (F__law_rare : L2.Fun K "_law_rare" "_law_rare" s__law_rare f__law_rare fd__law_rare) (hm__law_rare : mg "_law_rare" = some (.ref f__law_rare)) (hb__law_rare : Binds K fd__law_rare ["d", "many"] []) (c__law_draw : Cal P w K mg base "_law_draw" 2 2 m__law_draw) : Cal P w K mg base "_law_rare" 3 2 m__law_rare :=
  cal_of (k := 2) F__law_rare hm__law_rare hb__law_rare sc__law_rare rfl rfl (fun cdv A outer s H E hr => ⟨_, jss_one (js_ret (S := []) (j_cmp (sim_eq (K := K)) (op_eqP (hu64 hr)) (by rfl) (jg (k_fn K mg c__law_draw (hr.mono (by decide)) (takes_of rfl rfl rfl rfl) (ja_cons (jg_var 0) (ja_cons (jg_var 1) (ja_nil))))) (jg (jn_op (sim_I (K := K)) op_fdiv (jr_var 1) (jr_int)))))⟩) (by decide)
theorem sc__law_passing : FnScope ["d", "at", "last", "many", "forks", "later", "counter", "number", "way", "k"] ["d", "at", "last", "many", "forks"] (defScope s__law_passing) := ⟨rfl, rfl, rfl, by decide +kernel, rfl, by decide +kernel, by decide +kernel⟩
theorem ok__law_passing {f__law_passing : Addr} {fd__law_passing : FuncData} (F__law_passing : L2.Fun K "_law_passing" "_law_passing" s__law_passing f__law_passing fd__law_passing) (hm__law_passing : mg "_law_passing" = some (.ref f__law_passing)) (hb__law_passing : Binds K fd__law_passing ["d", "at", "last", "many", "forks"] []) (c__law_draw : Cal P w K mg base "_law_draw" 2 2 m__law_draw) (c__law_rare : Cal P w K mg base "_law_rare" 3 2 m__law_rare) (c__law_pick : Cal P w K mg base "_law_pick" 3 2 m__law_pick) (z_range : mg "range" = none) (z_tuple : mg "tuple" = none) : Cal P w K mg base "_law_passing" 4 5 m__law_passing :=
  cal_of (k := 3) F__law_passing hm__law_passing hb__law_passing sc__law_passing rfl rfl (fun cdv A outer s H E hr => ⟨_, jss_cons (js_setLc 5 (own := [("k", 9)]) rfl sc__law_passing.nd (ji_r1 z_range (ja_cons (jg (j_int)) (ja_nil))) (by show blkC ["d", "at", "last", "many", "forks", "later", "counter", "number", "way", "k"] (defScope s__law_passing) _ [("k", 9)] = true; decide +kernel) (fun s H C cl fp => jp_n 9 sc__law_passing.nd) (by decide) (fun s H C cl fp => jtt_nil) (fun s H C cl fp => j_op (sim_add (K := K)) op_addP (jg (jn_op (sim_add (K := K)) op_addP (jr_var 1) (jr_int))) (jg (k_fn K mg c__law_draw (hr.mono (by decide)) takes0 (ja_cons (jg_var 0) (ja_cons (jg (jn_op (sim_I0 (K := K)) op_sub (jr_var 2) (jr_var 1))) (ja_nil))))))) (jss_cons (js_set 6 sc__law_passing.nd (k_fn K mg c__law_draw (hr.mono (by decide)) (takes_of rfl rfl rfl rfl) (ja_cons (jg_var 0) (ja_cons (jg_var 3) (ja_nil))))) (jss_cons (js_set 7 sc__law_passing.nd (k_fn K mg c__law_draw (hr.mono (by decide)) (takes_of rfl rfl rfl rfl) (ja_cons (jg_var 0) (ja_cons (jg (j_int)) (ja_nil))))) (jss_cons (js_set 8 sc__law_passing.nd (k_fn K mg c__law_draw (hr.mono (by decide)) (takes_of rfl rfl rfl rfl) (ja_cons (jg_var 0) (ja_cons (jg (j_int)) (ja_nil))))) (jss_cons (js_if (JW.t (jw_and (jnt_cmp (sim_B0 (K := K)) op_lt (by rfl) (jr_var 8) (jr_int)) (jw_and1 (jnt_cmp (sim_B0 (K := K)) op_lt (by rfl) (jr_var 4) (jr_int))))) (jss_one (js_ret (S := []) (j_tup (ja_cons (jg (j_str)) (ja_cons (jg (j_callTy (sim_tuple (K := K)) call_tuple_of b_tuple z_tuple (ja_cons (jg (k_sl K (jg_var 5) (jo_none) (jo_some (j_op (sim_add (K := K)) op_addP (jg (j_int)) (jg (k_fn K mg c__law_draw (hr.mono (by decide)) (takes_of rfl rfl rfl rfl) (ja_cons (jg_var 0) (ja_cons (jg (j_int)) (ja_nil))))))))) (ja_nil)))) (ja_nil)))))) (jss_nil (S := []))) (jss_cons (js_if (jnt_cmp (sim_eq (K := K)) (op_eqP (hu64 hr)) (by rfl) (jr_var 8) (jr_int)) (jss_one (js_ret (S := []) (j_tup (ja_cons (jg (j_str)) (ja_cons (jg (j_r (jr_ix (sim_ix (K := K)) ix_seq (jr_var 5) (jr_int)))) (ja_nil)))))) (jss_nil (S := []))) (jss_cons (js_if (jnt_cmp (sim_eq (K := K)) (op_eqP (hu64 hr)) (by rfl) (jr_var 8) (jr_int)) (jss_one (js_ret (S := []) (j_tup (ja_cons (jg (j_str)) (ja_cons (jg (j_var 6)) (ja_cons (jg (j_r (jr_ix (sim_ix (K := K)) ix_seq (jr_var 5) (jr_int)))) (ja_nil))))))) (jss_nil (S := []))) (jss_cons (js_if (jnt_cmp (sim_eq (K := K)) (op_eqP (hu64 hr)) (by rfl) (jr_var 8) (jr_int)) (jss_one (js_ret (S := []) (j_tup (ja_cons (jg (j_str)) (ja_cons (jg (j_var 6)) (ja_cons (jg (k_fn K mg c__law_draw (hr.mono (by decide)) (takes_of rfl rfl rfl rfl) (ja_cons (jg_var 0) (ja_cons (jg (j_int)) (ja_nil))))) (ja_nil))))))) (jss_nil (S := []))) (jss_cons (js_if (jnt_cmp (sim_eq (K := K)) (op_eqP (hu64 hr)) (by rfl) (jr_var 8) (jr_int)) (jss_one (js_ret (S := []) (j_tup (ja_cons (jg (j_str)) (ja_cons (jg (j_var 6)) (ja_cons (jg (k_fn K mg c__law_draw (hr.mono (by decide)) (takes_of rfl rfl rfl rfl) (ja_cons (jg_var 0) (ja_cons (jg (jn_op (sim_add (K := K)) op_addP (jr_var 7) (jr_int))) (ja_nil))))) (ja_cons (jg (j_var 7)) (ja_nil)))))))) (jss_nil (S := []))) (jss_cons (js_if (jnt_cmp (sim_eq (K := K)) (op_eqP (hu64 hr)) (by rfl) (jr_var 8) (jr_int)) (jss_one (js_ret (S := []) (j_tup (ja_cons (jg (j_str)) (ja_cons (jg (j_var 6)) (ja_cons (jg (j_var 7)) (ja_nil))))))) (jss_nil (S := []))) (jss_cons (js_if (JW.t (jw_and (jnt_cmp (sim_eq (K := K)) (op_eqP (hu64 hr)) (by rfl) (jr_var 8) (jr_int)) (jw_and1 (jt_val (k_fn K mg c__law_rare (hr.mono (by decide)) (takes_of rfl rfl rfl rfl) (ja_cons (jg_var 0) (ja_cons (jg (j_int)) (ja_nil)))))))) (jss_one (js_ret (S := []) (j_tup (ja_cons (jg (j_str)) (ja_nil))))) (jss_nil (S := []))) (jss_one (js_ret (S := []) (j_tup (ja_cons (jg (j_str)) (ja_cons (jg (j_var 6)) (ja_cons (jg (k_fn K mg c__law_pick (hr.mono (by decide)) (takes_of rfl rfl rfl rfl) (ja_cons (jg_var 0) (ja_cons (jg (j_lst (ja_cons (jg (j_int)) (ja_cons (jg (jn_un (sim_neg (K := K)) un_neg (jr_int))) (ja_cons (jg (j_int)) (ja_cons (jg (jn_un (sim_neg (K := K)) un_neg (jr_int))) (ja_nil))))))) (ja_nil))))) (ja_cons (jg (j_var 7)) (ja_nil))))))))))))))))))⟩) (by decide)
theorem sc__law_row_of_steps : FnScope ["d", "base", "many", "last", "steps", "forks", "turn", "at", "way", "counter", "bump", "taking"] ["d"] (defScope s__law_row_of_steps) := ⟨rfl, rfl, rfl, by decide +kernel, rfl, by decide +kernel, by decide +kernel⟩
theorem ok__law_row_of_steps {f__law_row_of_steps : Addr} {fd__law_row_of_steps : FuncData} (F__law_row_of_steps : L2.Fun K "_law_row_of_steps" "_law_row_of_steps" s__law_row_of_steps f__law_row_of_steps fd__law_row_of_steps) (hm__law_row_of_steps : mg "_law_row_of_steps" = some (.ref f__law_row_of_steps)) (hb__law_row_of_steps : Binds K fd__law_row_of_steps ["d"] []) (c__law_draw : Cal P w K mg base "_law_draw" 2 2 m__law_draw) (c__law_taking : Cal P w K mg base "_law_taking" 4 3 m__law_taking) (c__law_pick : Cal P w K mg base "_law_pick" 3 2 m__law_pick) (c__law_passing : Cal P w K mg base "_law_passing" 4 5 m__law_passing) (z_int : mg "int" = none) (z_len : mg "len" = none) (z_range : mg "range" = none) (z_tuple : mg "tuple" = none) : Cal P w K mg base "_law_row_of_steps" 5 1 m__law_row_of_steps :=
  cal_of (k := 4) F__law_row_of_steps hm__law_row_of_steps hb__law_row_of_steps sc__law_row_of_steps rfl rfl (fun cdv A outer s H E hr => ⟨_, jss_cons (js_set 1 sc__law_row_of_steps.nd (j_op (sim_add (K := K)) op_addP (jg (j_int)) (jg (k_fn K mg c__law_draw (hr.mono (by decide)) (takes_of rfl rfl rfl rfl) (ja_cons (jg_var 0) (ja_cons (jg (j_int)) (ja_nil))))))) (jss_cons (js_set 2 sc__law_row_of_steps.nd (j_op (sim_add (K := K)) op_addP (jg (j_int)) (jg (k_fn K mg c__law_draw (hr.mono (by decide)) (takes_of rfl rfl rfl rfl) (ja_cons (jg_var 0) (ja_cons (jg (j_int)) (ja_nil))))))) (jss_cons (js_set 3 sc__law_row_of_steps.nd (j_op (sim_add (K := K)) op_addP (jg (j_int)) (jg (k_fn K mg c__law_draw (hr.mono (by decide)) (takes_of rfl rfl rfl rfl) (ja_cons (jg_var 0) (ja_cons (jg (j_int)) (ja_nil))))))) (jss_cons (js_set 4 sc__law_row_of_steps.nd (j_lst (ja_nil))) (jss_cons (js_set 5 sc__law_row_of_steps.nd (j_int)) (jss_cons (js_for (passes_of rfl) rfl (ji_r1 z_range (ja_cons (jg_var 3) (ja_nil))) (jp_n 6 sc__law_row_of_steps.nd) (jss_cons (js_set 7 sc__law_row_of_steps.nd (jn_callB (sim_len (K := K)) call_len b_len z_len (jra_cons (jr_var 4) (jra_nil)))) (jss_cons (js_set 8 sc__law_row_of_steps.nd (k_fn K mg c__law_draw (hr.mono (by decide)) (takes_of rfl rfl rfl rfl) (ja_cons (jg_var 0) (ja_cons (jg (j_int)) (ja_nil))))) (jss_cons (js_set 9 sc__law_row_of_steps.nd (k_fn K mg c__law_draw (hr.mono (by decide)) (takes_of rfl rfl rfl rfl) (ja_cons (jg_var 0) (ja_cons (jg_var 2) (ja_nil))))) (jss_one (js_if (jnt_cmp (sim_B0 (K := K)) op_lt (by rfl) (jr_var 7) (jr_var 3)) (jss_one (js_if (JW.t (jw_and (jnt_cmp (sim_eq (K := K)) (op_eqP (hu64 hr)) (by rfl) (jr_var 8) (jr_int)) (jw_and1 (jnt_cmp (sim_B0 (K := K)) op_le (by rfl) (jr_op (sim_add (K := K)) op_addP (jr_var 7) (jr_int)) (jr_var 3))))) (jss_one (js_expr (S := []) (k_methB K PySem.F.plainAttrs_list PySem.F.slot_list_extend PySem.F.type_list_extend (sim_extend (K := K)) mt_extend (jr_var 4) (ja_cons (jg (j_lst (ja_cons (jg (j_tup (ja_cons (jg (j_str)) (ja_cons (jg (j_tup (ja_cons (jg (jn_op (sim_add (K := K)) op_addP (jr_var 7) (jr_int))) (ja_cons (jg (jn_op (sim_add (K := K)) op_addP (jr_var 7) (jr_int))) (ja_nil))))) (ja_nil))))) (ja_cons (jg (k_fn K mg c__law_taking (hr.mono (by decide)) (takes_of rfl rfl rfl rfl) (ja_cons (jg_var 0) (ja_cons (jg_var 1) (ja_cons (jg_var 2) (ja_nil)))))) (ja_cons (jg (j_tup (ja_cons (jg (j_str)) (ja_cons (jg (j_var 7)) (ja_nil))))) (ja_nil)))))) (ja_nil))))) (jss_one (js_if (JW.t (jw_and (jnt_cmp (sim_eq (K := K)) (op_eqP (hu64 hr)) (by rfl) (jr_var 8) (jr_int)) (jw_and1 (jnt_cmp (sim_B0 (K := K)) op_le (by rfl) (jr_op (sim_add (K := K)) op_addP (jr_var 7) (jr_int)) (jr_var 3))))) (jss_one (js_expr (S := []) (k_methB K PySem.F.plainAttrs_list PySem.F.slot_list_extend PySem.F.type_list_extend (sim_extend (K := K)) mt_extend (jr_var 4) (ja_cons (jg (j_lst (ja_cons (jg (j_tup (ja_cons (jg (j_str)) (ja_cons (jg (j_var 9)) (ja_cons (jg (jn_op (sim_add (K := K)) op_addP (jr_var 7) (jr_int))) (ja_nil)))))) (ja_cons (jg (k_fn K mg c__law_taking (hr.mono (by decide)) (takes_of rfl rfl rfl rfl) (ja_cons (jg_var 0) (ja_cons (jg_var 1) (ja_cons (jg_var 2) (ja_nil)))))) (ja_cons (jg (j_tup (ja_cons (jg (j_str)) (ja_cons (jg (j_var 7)) (ja_nil))))) (ja_nil)))))) (ja_nil))))) (jss_one (js_if (JW.t (jw_and (jnt_cmp (sim_eq (K := K)) (op_eqP (hu64 hr)) (by rfl) (jr_var 8) (jr_int)) (jw_and1 (jnt_cmp (sim_B0 (K := K)) op_le (by rfl) (jr_op (sim_add (K := K)) op_addP (jr_var 7) (jr_int)) (jr_var 3))))) (jss_cons (js_set 10 sc__law_row_of_steps.nd (j_tup (ja_cons (jg (j_str)) (ja_cons (jg (k_fn K mg c__law_draw (hr.mono (by decide)) (takes_of rfl rfl rfl rfl) (ja_cons (jg_var 0) (ja_cons (jg_var 2) (ja_nil))))) (ja_cons (jg (k_fn K mg c__law_pick (hr.mono (by decide)) (takes_of rfl rfl rfl rfl) (ja_cons (jg_var 0) (ja_cons (jg (j_lst (ja_cons (jg (j_int)) (ja_cons (jg (jn_un (sim_neg (K := K)) un_neg (jr_int))) (ja_nil))))) (ja_nil))))) (ja_cons (jg (k_fn K mg c__law_draw (hr.mono (by decide)) (takes_of rfl rfl rfl rfl) (ja_cons (jg_var 0) (ja_cons (jg (j_int)) (ja_nil))))) (ja_nil))))))) (jss_cons (js_set 11 sc__law_row_of_steps.nd (k_fn K mg c__law_taking (hr.mono (by decide)) (takes_of rfl rfl rfl rfl) (ja_cons (jg_var 0) (ja_cons (jg_var 1) (ja_cons (jg_var 2) (ja_nil)))))) (jss_cons (js_expr (S := []) (k_methB K PySem.F.plainAttrs_list PySem.F.slot_list_extend PySem.F.type_list_extend (sim_extend (K := K)) mt_extend (jr_var 4) (ja_cons (jg (j_lst (ja_cons (jg (j_tup (ja_cons (jg (j_str)) (ja_cons (jg (j_tup (ja_cons (jg (jn_op (sim_add (K := K)) op_addP (jr_var 7) (jr_int))) (ja_cons (jg (jn_op (sim_add (K := K)) op_addP (jr_var 7) (jr_int))) (ja_nil))))) (ja_nil))))) (ja_cons (jg (j_var 10)) (ja_cons (jg (j_var 11)) (ja_nil)))))) (ja_nil)))) (jss_one (js_expr (S := []) (k_methB K PySem.F.plainAttrs_list PySem.F.slot_list_extend PySem.F.type_list_extend (sim_extend (K := K)) mt_extend (jr_var 4) (ja_cons (jg (j_lst (ja_cons (jg (j_tup (ja_cons (jg (j_str)) (ja_cons (jg (j_var 9)) (ja_cons (jg (j_int)) (ja_nil)))))) (ja_cons (jg (j_tup (ja_cons (jg (j_str)) (ja_cons (jg (j_var 9)) (ja_cons (jg (j_int)) (ja_nil)))))) (ja_cons (jg (j_tup (ja_cons (jg (j_str)) (ja_cons (jg (j_var 7)) (ja_nil))))) (ja_nil)))))) (ja_nil)))))))) (jss_one (js_if (jnt_cmp (sim_B0 (K := K)) op_lt (by rfl) (jr_var 8) (jr_int)) (jss_one (js_expr (S := []) (k_meth K PySem.F.plainAttrs_list PySem.F.slot_list_append PySem.F.type_list_append (sim_append (K := K)) mt_append (jr_var 4) (ja_cons (jg (k_fn K mg c__law_taking (hr.mono (by decide)) (takes_of rfl rfl rfl rfl) (ja_cons (jg_var 0) (ja_cons (jg_var 1) (ja_cons (jg_var 2) (ja_nil)))))) (ja_nil))))) (jss_cons (js_expr (S := []) (k_meth K PySem.F.plainAttrs_list PySem.F.slot_list_append PySem.F.type_list_append (sim_append (K := K)) mt_append (jr_var 4) (ja_cons (jg (k_fn K mg c__law_passing (hr.mono (by decide)) (takes_of rfl rfl rfl rfl) (ja_cons (jg_var 0) (ja_cons (jg_var 7) (ja_cons (jg_var 3) (ja_cons (jg_var 2) (ja_cons (jg_var 5) (ja_nil)))))))) (ja_nil)))) (jss_one (js_aug 5 (sim_addI (K := K)) ip_addP sc__law_row_of_steps.nd (jn_callTy (sim_int (K := K)) call_intP b_int z_int (jra_cons (jr_cmp (sim_eq (K := K)) (op_eqP (hu64 hr)) (by rfl) (jr_ix (sim_ix (K := K)) ix_seq (jr_ix (sim_ix (K := K)) ix_seq (jr_var 4) (jr_un (sim_neg (K := K)) un_neg (jr_int))) (jr_int)) (jr_str)) (jra_nil)))))))))))))) (jss_nil (S := [])))))))) (jss_one (js_ret (S := []) (j_tup (ja_cons (jg (j_var 1)) (ja_cons (jg (j_var 2)) (ja_cons (jg (j_op (sim_add (K := K)) op_addP (jg (jn_callTy (sim_tuple (K := K)) call_tuple_of b_tuple z_tuple (jra_cons (jr_var 4) (jra_nil)))) (jg (j_tup (ja_cons (jg (j_tup (ja_cons (jg (j_str)) (ja_nil)))) (ja_nil)))))) (ja_nil))))))))))))⟩) (by decide)
theorem sc__law_standing : FnScope ["d", "world", "places", "greatest", "base", "many", "steps", "k"] ["d", "world"] (defScope s__law_standing) := ⟨rfl, rfl, rfl, by decide +kernel, rfl, by decide +kernel, by decide +kernel⟩
theorem ok__law_standing {f__law_standing : Addr} {fd__law_standing : FuncData} (F__law_standing : L2.Fun K "_law_standing" "_law_standing" s__law_standing f__law_standing fd__law_standing) (hm__law_standing : mg "_law_standing" = some (.ref f__law_standing)) (hb__law_standing : Binds K fd__law_standing ["d", "world"] []) (c__law_pick : Cal P w K mg base "_law_pick" 3 2 m__law_pick) (c__law_draw : Cal P w K mg base "_law_draw" 2 2 m__law_draw) (z_len : mg "len" = none) (z_range : mg "range" = none) (z_tuple : mg "tuple" = none) : Cal P w K mg base "_law_standing" 4 2 m__law_standing :=
  cal_of (k := 3) F__law_standing hm__law_standing hb__law_standing sc__law_standing rfl rfl (fun cdv A outer s H E hr => ⟨_, jss_cons (js_asg (j_var 1) (k_t K rfl (jps_cons (jp_n 4 sc__law_standing.nd) (jps_cons (jp_n 5 sc__law_standing.nd) (jps_cons (jp_n 6 sc__law_standing.nd) (jps_nil (S := []))))))) (jss_cons (js_setLc 2 (own := [("k", 7)]) rfl sc__law_standing.nd (ji_r1 z_range (ja_cons (jg (jn_callB (sim_len (K := K)) call_len b_len z_len (jra_cons (jr_var 6) (jra_nil)))) (ja_nil))) (by show blkC ["d", "world", "places", "greatest", "base", "many", "steps", "k"] (defScope s__law_standing) _ [("k", 7)] = true; decide +kernel) (fun s H C cl fp => jp_n 7 sc__law_standing.nd) (by decide) (fun s H C cl fp => jtt_one (jt_cmp (sim_in (K := K)) (op_inP (hu65 hr)) (by rfl) (jg (j_r (jr_ix (sim_ix (K := K)) ix_seq (jr_ix (sim_ix (K := K)) ix_seq (jr_var 6) (jr_var 7)) (jr_int)))) (jg (j_tup (ja_cons (jg (j_str)) (ja_cons (jg (j_str)) (ja_cons (jg (j_str)) (ja_cons (jg (j_str)) (ja_cons (jg (j_str)) (ja_nil)))))))))) (fun s H C cl fp => j_var 7)) (jss_cons (js_set 3 sc__law_standing.nd (k_fn K mg c__law_pick (hr.mono (by decide)) (takes_of rfl rfl rfl rfl) (ja_cons (jg_var 0) (ja_cons (jg (j_lst (ja_cons (jg (j_int)) (ja_cons (jg (j_int)) (ja_cons (jg (j_int)) (ja_nil)))))) (ja_nil))))) (jss_one (js_ret (S := []) (j_tup (ja_cons (jg (k_fn K mg c__law_pick (hr.mono (by decide)) (takes_of rfl rfl rfl rfl) (ja_cons (jg_var 0) (ja_cons (jg_var 2) (ja_nil))))) (ja_cons (jg (j_callTy (sim_tuple (K := K)) call_tuple_of b_tuple z_tuple (ja_cons (jg (j_lc (own := [("k", 7)]) rfl sc__law_standing.nd (ji_r1 z_range (ja_cons (jg_var 5) (ja_nil))) (by show blkC ["d", "world", "places", "greatest", "base", "many", "steps", "k"] (defScope s__law_standing) _ [("k", 7)] = true; decide +kernel) (fun s H C cl fp => jp_n 7 sc__law_standing.nd) (by decide) (fun s H C cl fp => jtt_nil) (fun s H C cl fp => k_fn K mg c__law_draw (hr.mono (by decide)) takes0 (ja_cons (jg_var 0) (ja_cons (jg_var 3) (ja_nil)))))) (ja_nil)))) (ja_nil))))))))⟩) (by decide)
theorem sc__law_is_int : FnScope ["thing"] ["thing"] (defScope s__law_is_int) := ⟨rfl, rfl, rfl, by decide +kernel, rfl, by decide +kernel, by decide +kernel⟩
theorem ok__law_is_int {f__law_is_int : Addr} {fd__law_is_int : FuncData} (F__law_is_int : L2.Fun K "_law_is_int" "_law_is_int" s__law_is_int f__law_is_int fd__law_is_int) (hm__law_is_int : mg "_law_is_int" = some (.ref f__law_is_int)) (hb__law_is_int : Binds K fd__law_is_int ["thing"] []) (z_bool : mg "bool" = none) (z_int : mg "int" = none) (z_isinstance : mg "isinstance" = none) : Cal P w K mg base "_law_is_int" 2 1 m__law_is_int :=
  cal_of (k := 1) F__law_is_int hm__law_is_int hb__law_is_int sc__law_is_int rfl rfl (fun cdv A outer s H E hr => ⟨_, jss_one (js_ret (S := []) (j_and (jn_callB (sim_isi (K := K)) call_isi b_isinstance z_isinstance (jra_cons (jr_var 0) (jra_cons (jr_ty b_int z_int) (jra_nil)))) (j_one (j_not (jn_callB (sim_isi (K := K)) call_isi b_isinstance z_isinstance (jra_cons (jr_var 0) (jra_cons (jr_ty b_bool z_bool) (jra_nil))))))))⟩) (by decide)
theorem sc__law_same : FnScope ["one", "other", "k"] ["one", "other"] (defScope s__law_same) := ⟨rfl, rfl, rfl, by decide +kernel, rfl, by decide +kernel, by decide +kernel⟩
theorem ok__law_same {f__law_same : Addr} {fd__law_same : FuncData} (F__law_same : L2.Fun K "_law_same" "_law_same" s__law_same f__law_same fd__law_same) (hm__law_same : mg "_law_same" = some (.ref f__law_same)) (hb__law_same : Binds K fd__law_same ["one", "other"] []) (c__law_is_int : Cal P w K mg base "_law_is_int" 2 1 m__law_is_int) (z_bool : mg "bool" = none) (z_isinstance : mg "isinstance" = none) (z_len : mg "len" = none) (z_range : mg "range" = none) (z_str : mg "str" = none) (z_tuple : mg "tuple" = none) : ∀ n, Cal P w K mg base "_law_same" (2 + 1 + n) 2 (m__law_same n)
  | 0 => cal_bad F__law_same hm__law_same hb__law_same sc__law_same rfl
  | n + 1 => by
    have c__law_same := ok__law_same F__law_same hm__law_same hb__law_same c__law_is_int z_bool z_isinstance z_len z_range z_str z_tuple n
    exact cal_of (k := 2 + 1 + n) F__law_same hm__law_same hb__law_same sc__law_same rfl rfl (fun cdv A outer s H E hr => ⟨_, jss_cons (js_if (jt_val (jn_callB (sim_isi (K := K)) call_isi b_isinstance z_isinstance (jra_cons (jr_var 0) (jra_cons (jr_ty b_tuple z_tuple) (jra_nil))))) (jss_cons (js_if (JW.t (jw_or (jt_not (jt_val (jn_callB (sim_isi (K := K)) call_isi b_isinstance z_isinstance (jra_cons (jr_var 1) (jra_cons (jr_ty b_tuple z_tuple) (jra_nil)))))) (jw_or1 (jnt_cmp (sim_ne (K := K)) (op_neP (hu64 hr)) (by rfl) (jr_callB (sim_len (K := K)) call_len b_len z_len (jra_cons (jr_var 0) (jra_nil))) (jr_callB (sim_len (K := K)) call_len b_len z_len (jra_cons (jr_var 1) (jra_nil))))))) (jss_one (js_ret (S := []) (j_bl))) (jss_nil (S := []))) (jss_one (js_ret (S := []) (j_cmp (sim_eq (K := K)) (op_eqP (hu64 hr)) (by rfl) (jg (j_callB (sim_len (K := K)) call_len b_len z_len (ja_cons (jg (j_lc (own := [("k", 2)]) rfl sc__law_same.nd (ji_r1 z_range (ja_cons (jg (jn_callB (sim_len (K := K)) call_len b_len z_len (jra_cons (jr_var 0) (jra_nil)))) (ja_nil))) (by show blkC ["one", "other", "k"] (defScope s__law_same) _ [("k", 2)] = true; decide +kernel) (fun s H C cl fp => jp_n 2 sc__law_same.nd) (by decide) (fun s H C cl fp => jtt_one (jt_not (jt_val (k_fn K mg c__law_same (hr.mono (Nat.le_refl _)) takes0 (ja_cons (jg (j_r (jr_ix (sim_ix (K := K)) ix_seq (jr_var 0) (jr_var 2)))) (ja_cons (jg (j_r (jr_ix (sim_ix (K := K)) ix_seq (jr_var 1) (jr_var 2)))) (ja_nil))))))) (fun s H C cl fp => j_var 2))) (ja_nil)))) (jg (j_int)))))) (jss_nil (S := []))) (jss_cons (js_if (JW.t (jw_or (jt_val (jn_callB (sim_isi (K := K)) call_isi b_isinstance z_isinstance (jra_cons (jr_var 0) (jra_cons (jr_ty b_bool z_bool) (jra_nil))))) (jw_or (jnt_cmp (sim_isN (K := K)) op_isN (by rfl) (jr_var 0) (jr_non)) (jw_or1 (jt_val (jn_callB (sim_isi (K := K)) call_isi b_isinstance z_isinstance (jra_cons (jr_var 0) (jra_cons (jr_ty b_str z_str) (jra_nil))))))))) (jss_one (js_ret (S := []) (j_and (jn_cmp (sim_eq (K := K)) (op_eqP (hu64 hr)) (by rfl) (jr_callB (sim_isi (K := K)) call_isi b_isinstance z_isinstance (jra_cons (jr_var 0) (jra_cons (jr_ty b_bool z_bool) (jra_nil)))) (jr_callB (sim_isi (K := K)) call_isi b_isinstance z_isinstance (jra_cons (jr_var 1) (jra_cons (jr_ty b_bool z_bool) (jra_nil))))) (j_one (jn_cmp (sim_eq (K := K)) (op_eqP (hu64 hr)) (by rfl) (jr_var 0) (jr_var 1)))))) (jss_nil (S := []))) (jss_one (js_ret (S := []) (j_and (k_fn K mg c__law_is_int (hr.mono (by omega)) (takes_of rfl rfl rfl rfl) (ja_cons (jg_var 0) (ja_nil))) (j_and (k_fn K mg c__law_is_int (hr.mono (by omega)) (takes_of rfl rfl rfl rfl) (ja_cons (jg_var 1) (ja_nil))) (j_one (jn_cmp (sim_eq (K := K)) (op_eqP (hu64 hr)) (by rfl) (jr_var 0) (jr_var 1))))))))⟩) (by decide)
theorem sc__law_lifted : FnScope ["up", "content", "cell", "kind"] ["up", "content", "cell"] (defScope s__law_lifted) := ⟨rfl, rfl, rfl, by decide +kernel, rfl, by decide +kernel, by decide +kernel⟩
theorem ok__law_lifted {f__law_lifted : Addr} {fd__law_lifted : FuncData} (F__law_lifted : L2.Fun K "_law_lifted" "_law_lifted" s__law_lifted f__law_lifted fd__law_lifted) (hm__law_lifted : mg "_law_lifted" = some (.ref f__law_lifted)) (hb__law_lifted : Binds K fd__law_lifted ["up", "content", "cell"] []) (z_int : mg "int" = none) : Cal P w K mg base "_law_lifted" 2 3 m__law_lifted :=
  cal_of (k := 1) F__law_lifted hm__law_lifted hb__law_lifted sc__law_lifted rfl rfl (fun cdv A outer s H E hr => ⟨_, jss_cons (js_set 3 sc__law_lifted.nd (j_r (jr_ix (sim_ix (K := K)) ix_seq (jr_var 0) (jr_int)))) (jss_cons (js_if (jnt_cmp (sim_eq (K := K)) (op_eqP (hu64 hr)) (by rfl) (jr_var 3) (jr_str)) (jss_one (js_ret (S := []) (j_op (sim_mulL (K := K)) op_mulL (jg (j_lst (ja_cons (jg (jn_op (sim_add (K := K)) op_addP (jr_var 1) (jr_int))) (ja_nil)))) (jg (jn_callTy (sim_int (K := K)) call_intP b_int z_int (jra_cons (jr_cmp (sim_B0 (K := K)) op_lt (by rfl) (jr_var 1) (jr_ix (sim_ix (K := K)) ix_seq (jr_var 0) (jr_int))) (jra_nil))))))) (jss_nil (S := []))) (jss_cons (js_if (jnt_cmp (sim_eq (K := K)) (op_eqP (hu64 hr)) (by rfl) (jr_var 3) (jr_str)) (jss_one (js_ret (S := []) (j_op (sim_mulL (K := K)) op_mulL (jg (j_lst (ja_cons (jg (jn_op (sim_I0 (K := K)) op_sub (jr_var 1) (jr_int))) (ja_nil)))) (jg (jn_callTy (sim_int (K := K)) call_intP b_int z_int (jra_cons (jr_cmp (sim_B0 (K := K)) op_gt (by rfl) (jr_var 1) (jr_int)) (jra_nil))))))) (jss_nil (S := []))) (jss_cons (js_if (jnt_cmp (sim_eq (K := K)) (op_eqP (hu64 hr)) (by rfl) (jr_var 3) (jr_str)) (jss_one (js_ret (S := []) (j_lst (ja_cons (jg (jn_op (sim_I (K := K)) op_mod (jr_callTy (sim_int (K := K)) call_intP b_int z_int (jra_cons (jr_op (sim_add (K := K)) op_addP (jr_var 1) (jr_var 2)) (jra_nil))) (jr_ix (sim_ix (K := K)) ix_seq (jr_var 0) (jr_int)))) (ja_nil))))) (jss_nil (S := []))) (jss_cons (js_if (jnt_cmp (sim_eq (K := K)) (op_eqP (hu64 hr)) (by rfl) (jr_var 3) (jr_str)) (jss_one (js_ret (S := []) (j_lst (ja_cons (jg (jn_op (sim_I (K := K)) op_mod (jr_callTy (sim_int (K := K)) call_intP b_int z_int (jra_cons (jr_op (sim_I0 (K := K)) op_sub (jr_var 1) (jr_var 2)) (jra_nil))) (jr_ix (sim_ix (K := K)) ix_seq (jr_var 0) (jr_int)))) (ja_nil))))) (jss_nil (S := []))) (jss_cons (js_if (jnt_cmp (sim_eq (K := K)) (op_eqP (hu64 hr)) (by rfl) (jr_var 3) (jr_str)) (jss_one (js_ret (S := []) (j_lst (ja_cons (jg (jn_op (sim_I (K := K)) op_mod (jr_callTy (sim_int (K := K)) call_intP b_int z_int (jra_cons (jr_op (sim_add (K := K)) op_addP (jr_op (sim_I (K := K)) op_mul (jr_var 1) (jr_ix (sim_ix (K := K)) ix_seq (jr_var 0) (jr_int))) (jr_var 2)) (jra_nil))) (jr_ix (sim_ix (K := K)) ix_seq (jr_var 0) (jr_int)))) (ja_nil))))) (jss_nil (S := []))) (jss_cons (js_if (jnt_cmp (sim_eq (K := K)) (op_eqP (hu64 hr)) (by rfl) (jr_var 3) (jr_str)) (jss_one (js_ret (S := []) (j_lst (ja_cons (jg (jn_op (sim_I (K := K)) op_mod (jr_callTy (sim_int (K := K)) call_intP b_int z_int (jra_cons (jr_op (sim_add (K := K)) op_addP (jr_var 1) (jr_int)) (jra_nil))) (jr_ix (sim_ix (K := K)) ix_seq (jr_var 0) (jr_int)))) (ja_nil))))) (jss_nil (S := []))) (jss_one (js_ret (S := []) (j_lst (ja_cons (jg (j_int)) (ja_nil)))))))))))⟩) (by decide)
theorem sc__law_behind : FnScope ["step", "base", "contents", "cell", "held", "up", "row"] ["step", "base", "contents", "cell"] (defScope s__law_behind) := ⟨rfl, rfl, rfl, by decide +kernel, rfl, by decide +kernel, by decide +kernel⟩
theorem ok__law_behind {f__law_behind : Addr} {fd__law_behind : FuncData} (F__law_behind : L2.Fun K "_law_behind" "_law_behind" s__law_behind f__law_behind fd__law_behind) (hm__law_behind : mg "_law_behind" = some (.ref f__law_behind)) (hb__law_behind : Binds K fd__law_behind ["step", "base", "contents", "cell"] []) (c__law_lifted : Cal P w K mg base "_law_lifted" 2 3 m__law_lifted) (z_int : mg "int" = none) (z_len : mg "len" = none) (z_list : mg "list" = none) (z_tuple : mg "tuple" = none) : Cal P w K mg base "_law_behind" 3 4 m__law_behind :=
  cal_of (k := 2) F__law_behind hm__law_behind hb__law_behind sc__law_behind rfl rfl (fun cdv A outer s H E hr => ⟨_, jss_cons (js_set 4 sc__law_behind.nd (jn_callTy (sim_listP (K := K)) (call_listP rfl) b_list z_list (jra_cons (jr_var 2) (jra_nil)))) (jss_cons (js_if (JW.t (jw_and (jnt_cmp (sim_eq (K := K)) (op_eqP (hu64 hr)) (by rfl) (jr_ix (sim_ix (K := K)) ix_seq (jr_var 0) (jr_int)) (jr_str)) (jw_and1 (jnt_cmp (sim_ne (K := K)) (op_neP (hu64 hr)) (by rfl) (jr_var 3) (jr_ix (sim_ix (K := K)) ix_seq (jr_var 0) (jr_int)))))) (jss_one (js_ret (S := []) (j_lst (ja_nil)))) (jss_nil (S := []))) (jss_cons (js_if (JW.t (jw_and (jnt_cmp (sim_eq (K := K)) (op_eqP (hu64 hr)) (by rfl) (jr_ix (sim_ix (K := K)) ix_seq (jr_var 0) (jr_int)) (jr_str)) (jw_and1 (jnt_cmp (sim_ne (K := K)) (op_neP (hu64 hr)) (by rfl) (jr_var 3) (jr_op (sim_I (K := K)) op_mod (jr_callTy (sim_int (K := K)) call_intP b_int z_int (jra_cons (jr_op (sim_I (K := K)) op_fdiv (jr_ix (sim_ix (K := K)) ix_seq (jr_var 4) (jr_ix (sim_ix (K := K)) ix_seq (jr_var 0) (jr_int))) (jr_ix (sim_ix (K := K)) ix_seq (jr_var 0) (jr_int))) (jra_nil))) (jr_var 1)))))) (jss_one (js_ret (S := []) (j_lst (ja_nil)))) (jss_nil (S := []))) (jss_cons (js_if (jnt_cmp (sim_eq (K := K)) (op_eqP (hu64 hr)) (by rfl) (jr_ix (sim_ix (K := K)) ix_seq (jr_var 0) (jr_int)) (jr_str)) (jss_one (js_setIx (S := []) (i := 4) (sim_setL (K := K)) set_list (jn_op (sim_add (K := K)) op_addP (jr_op (sim_I (K := K)) op_mul (jr_ix (sim_ix (K := K)) ix_seq (jr_var 4) (jr_ix (sim_ix (K := K)) ix_seq (jr_var 0) (jr_int))) (jr_var 1)) (jr_var 3)) (jr_var 4) (jr_ix (sim_ix (K := K)) ix_seq (jr_var 0) (jr_int)))) (jss_nil (S := []))) (jss_cons (js_for (passes_of rfl) rfl (k_s K (j_r (jr_ix (sim_ix (K := K)) ix_seq (jr_var 0) (jr_un (sim_neg (K := K)) un_neg (jr_int))))) (jp_n 5 sc__law_behind.nd) (jss_cons (js_set 6 sc__law_behind.nd (k_fn K mg c__law_lifted (hr.mono (by decide)) (takes_of rfl rfl rfl rfl) (ja_cons (jg_var 5) (ja_cons (jg (j_r (jr_ix (sim_ix (K := K)) ix_seq (jr_var 4) (jr_ix (sim_ix (K := K)) ix_seq (jr_var 5) (jr_int))))) (ja_cons (jg_var 3) (ja_nil)))))) (jss_cons (js_if (jnt_cmp (sim_eq (K := K)) (op_eqP (hu64 hr)) (by rfl) (jr_callB (sim_len (K := K)) call_len b_len z_len (jra_cons (jr_var 6) (jra_nil))) (jr_int)) (jss_one (js_ret (S := []) (j_lst (ja_nil)))) (jss_nil (S := []))) (jss_one (js_setIx (S := []) (i := 4) (sim_setL (K := K)) set_list (j_r (jr_ix (sim_ix (K := K)) ix_seq (jr_var 6) (jr_int))) (jr_var 4) (jr_ix (sim_ix (K := K)) ix_seq (jr_var 5) (jr_int))))))) (jss_one (js_ret (S := []) (j_lst (ja_cons (jg (jn_callTy (sim_tuple (K := K)) call_tuple_of b_tuple z_tuple (jra_cons (jr_var 4) (jra_nil)))) (ja_nil)))))))))⟩) (by decide)
theorem sc__law_onward : FnScope ["step", "at", "held", "kind", "content"] ["step", "at", "held"] (defScope s__law_onward) := ⟨rfl, rfl, rfl, by decide +kernel, rfl, by decide +kernel, by decide +kernel⟩
theorem ok__law_onward {f__law_onward : Addr} {fd__law_onward : FuncData} (F__law_onward : L2.Fun K "_law_onward" "_law_onward" s__law_onward f__law_onward fd__law_onward) (hm__law_onward : mg "_law_onward" = some (.ref f__law_onward)) (hb__law_onward : Binds K fd__law_onward ["step", "at", "held"] []) (z_int : mg "int" = none) : Cal P w K mg base "_law_onward" 2 3 m__law_onward :=
  cal_of (k := 1) F__law_onward hm__law_onward hb__law_onward sc__law_onward rfl rfl (fun cdv A outer s H E hr => ⟨_, jss_cons (js_set 3 sc__law_onward.nd (j_r (jr_ix (sim_ix (K := K)) ix_seq (jr_var 0) (jr_int)))) (jss_cons (js_if (jnt_cmp (sim_eq (K := K)) (op_eqP (hu64 hr)) (by rfl) (jr_var 3) (jr_str)) (jss_one (js_ret (S := []) (j_lst (ja_nil)))) (jss_nil (S := []))) (jss_cons (js_if (jnt_cmp (sim_eq (K := K)) (op_eqP (hu64 hr)) (by rfl) (jr_var 3) (jr_str)) (jss_one (js_ret (S := []) (j_lst (ja_cons (jg (j_tup (ja_cons (jg (j_r (jr_ix (sim_ix (K := K)) ix_seq (jr_var 0) (jr_int)))) (ja_cons (jg (j_var 2)) (ja_nil))))) (ja_nil))))) (jss_nil (S := []))) (jss_cons (js_set 4 sc__law_onward.nd (j_r (jr_ix (sim_ix (K := K)) ix_seq (jr_var 2) (jr_ix (sim_ix (K := K)) ix_seq (jr_var 0) (jr_int))))) (jss_cons (js_if (jnt_cmp (sim_eq (K := K)) (op_eqP (hu64 hr)) (by rfl) (jr_var 3) (jr_str)) (jss_one (js_ret (S := []) (j_lst (ja_cons (jg (j_tup (ja_cons (jg (j_ix (sim_ix (K := K)) ix_seq (jg (j_tup (ja_cons (jg (jn_op (sim_add (K := K)) op_addP (jr_var 1) (jr_int))) (ja_cons (jg (j_r (jr_ix (sim_ix (K := K)) ix_seq (jr_var 0) (jr_int)))) (ja_nil))))) (jg (jn_callTy (sim_int (K := K)) call_intP b_int z_int (jra_cons (jr_cmp (sim_eq (K := K)) (op_eqP (hu64 hr)) (by rfl) (jr_var 4) (jr_int)) (jra_nil)))))) (ja_cons (jg (j_var 2)) (ja_nil))))) (ja_nil))))) (jss_nil (S := []))) (jss_cons (js_if (jnt_cmp (sim_eq (K := K)) (op_eqP (hu64 hr)) (by rfl) (jr_var 3) (jr_str)) (jss_one (js_ret (S := []) (j_op (sim_mulL (K := K)) op_mulL (jg (j_lst (ja_cons (jg (j_tup (ja_cons (jg (jn_op (sim_add (K := K)) op_addP (jr_var 1) (jr_int))) (ja_cons (jg (j_var 2)) (ja_nil))))) (ja_nil)))) (jg (jn_callTy (sim_int (K := K)) call_intP b_int z_int (jra_cons (jr_cmp (sim_eq (K := K)) (op_eqP (hu64 hr)) (by rfl) (jr_var 4) (jr_ix (sim_ix (K := K)) ix_seq (jr_var 0) (jr_int))) (jra_nil))))))) (jss_nil (S := []))) (jss_cons (js_if (jnt_cmp (sim_eq (K := K)) (op_eqP (hu64 hr)) (by rfl) (jr_var 3) (jr_str)) (jss_one (js_ret (S := []) (j_op (sim_mulL (K := K)) op_mulL (jg (j_lst (ja_cons (jg (j_tup (ja_cons (jg (jn_op (sim_add (K := K)) op_addP (jr_var 1) (jr_int))) (ja_cons (jg (j_var 2)) (ja_nil))))) (ja_nil)))) (jg (jn_callTy (sim_int (K := K)) call_intP b_int z_int (jra_cons (jr_chain (sim_B0 (K := K)) op_le (sim_B0 (K := K)) op_le (jr_ix (sim_ix (K := K)) ix_seq (jr_var 0) (jr_int)) (jr_var 4) (jr_ix (sim_ix (K := K)) ix_seq (jr_var 0) (jr_int))) (jra_nil))))))) (jss_nil (S := []))) (jss_cons (js_if (jnt_cmp (sim_eq (K := K)) (op_eqP (hu64 hr)) (by rfl) (jr_var 3) (jr_str)) (jss_one (js_set 4 sc__law_onward.nd (j_r (jr_ix (sim_ix (K := K)) ix_seq (jr_var 0) (jr_int))))) (jss_nil (S := []))) (jss_cons (js_if (jnt_cmp (sim_eq (K := K)) (op_eqP (hu64 hr)) (by rfl) (jr_var 3) (jr_str)) (jss_cons (js_aug 4 (sim_addI (K := K)) ip_addP sc__law_onward.nd (j_r (jr_ix (sim_ix (K := K)) ix_seq (jr_var 0) (jr_int)))) (jss_one (js_if (JW.t (jw_or (jnt_cmp (sim_B0 (K := K)) op_lt (by rfl) (jr_var 4) (jr_int)) (jw_or1 (jnt_cmp (sim_B0 (K := K)) op_gt (by rfl) (jr_var 4) (jr_ix (sim_ix (K := K)) ix_seq (jr_var 0) (jr_int)))))) (jss_one (js_ret (S := []) (j_lst (ja_nil)))) (jss_nil (S := []))))) (jss_nil (S := []))) (jss_one (js_ret (S := []) (j_lst (ja_cons (jg (j_tup (ja_cons (jg (jn_op (sim_add (K := K)) op_addP (jr_var 1) (jr_int))) (ja_cons (jg (j_op (sim_add (K := K)) op_addP (jg (j_op (sim_add (K := K)) op_addP (jg (k_sl K (jg_var 2) (jo_none) (jo_some (j_r (jr_ix (sim_ix (K := K)) ix_seq (jr_var 0) (jr_int)))))) (jg (j_tup (ja_cons (jg (j_var 4)) (ja_nil)))))) (jg (k_sl K (jg_var 2) (jo_some (jn_op (sim_add (K := K)) op_addP (jr_ix (sim_ix (K := K)) ix_seq (jr_var 0) (jr_int)) (jr_int))) (jo_none))))) (ja_nil))))) (ja_nil)))))))))))))⟩) (by decide)
theorem sc__law_ways : FnScope ["steps", "place", "contents", "found", "level", "turn", "after", "choices", "at", "held", "step", "k", "row"] ["steps", "place", "contents"] (defScope s__law_ways) := ⟨rfl, rfl, rfl, by decide +kernel, rfl, by decide +kernel, by decide +kernel⟩
theorem ok__law_ways {f__law_ways : Addr} {fd__law_ways : FuncData} (F__law_ways : L2.Fun K "_law_ways" "_law_ways" s__law_ways f__law_ways fd__law_ways) (hm__law_ways : mg "_law_ways" = some (.ref f__law_ways)) (hb__law_ways : Binds K fd__law_ways ["steps", "place", "contents"] []) (c__law_onward : Cal P w K mg base "_law_onward" 2 3 m__law_onward) (z_len : mg "len" = none) (z_range : mg "range" = none) (z_sorted : mg "sorted" = none) (z_tuple : mg "tuple" = none) : Cal P w K mg base "_law_ways" 3 3 m__law_ways :=
  cal_of (k := 2) F__law_ways hm__law_ways hb__law_ways sc__law_ways rfl rfl (fun cdv A outer s H E hr => ⟨_, jss_cons (js_set 3 sc__law_ways.nd (j_lst (ja_nil))) (jss_cons (js_set 4 sc__law_ways.nd (j_lst (ja_cons (jg (j_tup (ja_cons (jg (j_tup (ja_nil))) (ja_cons (jg (j_var 1)) (ja_cons (jg (j_var 2)) (ja_nil)))))) (ja_nil)))) (jss_cons (js_for (passes_of rfl) rfl (ji_r1 z_range (ja_cons (jg (jn_op (sim_I (K := K)) op_mul (jr_int) (jr_callB (sim_len (K := K)) call_len b_len z_len (jra_cons (jr_var 0) (jra_nil))))) (ja_nil))) (jp_n 5 sc__law_ways.nd) (jss_cons (js_set 6 sc__law_ways.nd (j_lst (ja_nil))) (jss_cons (k_forVS K (i := 4) (passes_of rfl) rfl (jr_var 4) (k_t K rfl (jps_cons (jp_n 7 sc__law_ways.nd) (jps_cons (jp_n 8 sc__law_ways.nd) (jps_cons (jp_n 9 sc__law_ways.nd) (jps_nil (S := [])))))) (jss_cons (js_set 10 sc__law_ways.nd (j_r (jr_ix (sim_ix (K := K)) ix_seq (jr_var 0) (jr_var 8)))) (jss_one (js_if (jt_cmp (sim_in (K := K)) (op_inP (hu65 hr)) (by rfl) (jg (j_r (jr_ix (sim_ix (K := K)) ix_seq (jr_var 10) (jr_int)))) (jg (j_tup (ja_cons (jg (j_str)) (ja_cons (jg (j_str)) (ja_cons (jg (j_str)) (ja_cons (jg (j_str)) (ja_cons (jg (j_str)) (ja_nil))))))))) (jss_one (js_expr (S := []) (k_meth K PySem.F.plainAttrs_list PySem.F.slot_list_append PySem.F.type_list_append (sim_append (K := K)) mt_append (jr_var 3) (ja_cons (jg (j_tup (ja_cons (jg (j_var 7)) (ja_cons (jg (j_tup (ja_cons (jg (j_var 8)) (ja_cons (jg (j_var 9)) (ja_nil))))) (ja_nil))))) (ja_nil))))) (jss_one (js_if (jnt_cmp (sim_eq (K := K)) (op_eqP (hu64 hr)) (by rfl) (jr_ix (sim_ix (K := K)) ix_seq (jr_var 10) (jr_int)) (jr_str)) (jss_one (js_expr (S := []) (k_methB K PySem.F.plainAttrs_list PySem.F.slot_list_extend PySem.F.type_list_extend (sim_extend (K := K)) mt_extend (jr_var 6) (ja_cons (jg (j_lc (own := [("k", 11)]) rfl sc__law_ways.nd (ji_r1 z_range (ja_cons (jg (jn_callB (sim_len (K := K)) call_len b_len z_len (jra_cons (jr_ix (sim_ix (K := K)) ix_seq (jr_var 10) (jr_int)) (jra_nil)))) (ja_nil))) (by show blkC ["steps", "place", "contents", "found", "level", "turn", "after", "choices", "at", "held", "step", "k", "row"] (defScope s__law_ways) _ [("k", 11)] = true; decide +kernel) (fun s H C cl fp => jp_n 11 sc__law_ways.nd) (by decide) (fun s H C cl fp => jtt_nil) (fun s H C cl fp => j_tup (ja_cons (jg (j_op (sim_add (K := K)) op_addP (jg_var 7) (jg (j_tup (ja_cons (jg (j_var 11)) (ja_nil)))))) (ja_cons (jg (j_r (jr_ix (sim_ix (K := K)) ix_seq (jr_ix (sim_ix (K := K)) ix_seq (jr_var 10) (jr_int)) (jr_var 11)))) (ja_cons (jg (j_var 9)) (ja_nil))))))) (ja_nil))))) (jss_one (js_expr (S := []) (k_methB K PySem.F.plainAttrs_list PySem.F.slot_list_extend PySem.F.type_list_extend (sim_extend (K := K)) mt_extend (jr_var 6) (ja_cons (jg (j_lc (own := [("row", 12)]) rfl sc__law_ways.nd (k_s K (k_fn K mg c__law_onward (hr.mono (by decide)) (takes_of rfl rfl rfl rfl) (ja_cons (jg_var 10) (ja_cons (jg_var 8) (ja_cons (jg_var 9) (ja_nil)))))) (by show blkC ["steps", "place", "contents", "found", "level", "turn", "after", "choices", "at", "held", "step", "k", "row"] (defScope s__law_ways) _ [("row", 12)] = true; decide +kernel) (fun s H C cl fp => jp_n 12 sc__law_ways.nd) (by decide) (fun s H C cl fp => jtt_nil) (fun s H C cl fp => j_tup (ja_cons (jg (j_var 7)) (ja_cons (jg (j_r (jr_ix (sim_ix (K := K)) ix_seq (jr_var 12) (jr_int)))) (ja_cons (jg (j_r (jr_ix (sim_ix (K := K)) ix_seq (jr_var 12) (jr_int)))) (ja_nil))))))) (ja_nil))))))))))) (jss_one (js_set 4 sc__law_ways.nd (j_var 6)))))) (jss_one (js_ret (S := []) (jn_callTy (sim_tuple (K := K)) call_tuple_of b_tuple z_tuple (jra_cons (jr_callB (sim_sorted (K := K)) (cr_sortD (hu64 hr)) b_sorted z_sorted (jra_cons (jr_var 3) (jra_nil))) (jra_nil)))))))⟩) (by decide)
theorem sc__law_due : FnScope ["steps", "base", "place", "contents", "found", "cell", "held", "way"] ["steps", "base", "place", "contents"] (defScope s__law_due) := ⟨rfl, rfl, rfl, by decide +kernel, rfl, by decide +kernel, by decide +kernel⟩
theorem ok__law_due {f__law_due : Addr} {fd__law_due : FuncData} (F__law_due : L2.Fun K "_law_due" "_law_due" s__law_due f__law_due fd__law_due) (hm__law_due : mg "_law_due" = some (.ref f__law_due)) (hb__law_due : Binds K fd__law_due ["steps", "base", "place", "contents"] []) (c__law_behind : Cal P w K mg base "_law_behind" 3 4 m__law_behind) (c__law_ways : Cal P w K mg base "_law_ways" 3 3 m__law_ways) (z_range : mg "range" = none) (z_tuple : mg "tuple" = none) : Cal P w K mg base "_law_due" 4 4 m__law_due :=
  cal_of (k := 3) F__law_due hm__law_due hb__law_due sc__law_due rfl rfl (fun cdv A outer s H E hr => ⟨_, jss_cons (js_set 4 sc__law_due.nd (j_lst (ja_nil))) (jss_cons (js_for (passes_of rfl) rfl (ji_r1 z_range (ja_cons (jg_var 1) (ja_nil))) (jp_n 5 sc__law_due.nd) (jss_one (js_if (jnt_cmp (sim_ne (K := K)) (op_neP (hu64 hr)) (by rfl) (jr_ix (sim_ix (K := K)) ix_seq (jr_ix (sim_ix (K := K)) ix_seq (jr_var 0) (jr_var 2)) (jr_int)) (jr_str)) (jss_one (js_for (passes_of rfl) rfl (k_s K (k_fn K mg c__law_behind (hr.mono (by decide)) (takes_of rfl rfl rfl rfl) (ja_cons (jg (j_r (jr_ix (sim_ix (K := K)) ix_seq (jr_var 0) (jr_var 2)))) (ja_cons (jg_var 1) (ja_cons (jg_var 3) (ja_cons (jg_var 5) (ja_nil))))))) (jp_n 6 sc__law_due.nd) (jss_one (js_expr (S := []) (k_methB K PySem.F.plainAttrs_list PySem.F.slot_list_extend PySem.F.type_list_extend (sim_extend (K := K)) mt_extend (jr_var 4) (ja_cons (jg (j_lc (own := [("way", 7)]) rfl sc__law_due.nd (k_s K (k_fn K mg c__law_ways (hr.mono (by decide)) (takes_of rfl rfl rfl rfl) (ja_cons (jg_var 0) (ja_cons (jg (jn_op (sim_add (K := K)) op_addP (jr_var 2) (jr_int))) (ja_cons (jg_var 6) (ja_nil)))))) (by show blkC ["steps", "base", "place", "contents", "found", "cell", "held", "way"] (defScope s__law_due) _ [("way", 7)] = true; decide +kernel) (fun s H C cl fp => jp_n 7 sc__law_due.nd) (by decide) (fun s H C cl fp => jtt_nil) (fun s H C cl fp => j_tup (ja_cons (jg (j_var 5)) (ja_cons (jg (j_r (jr_ix (sim_ix (K := K)) ix_seq (jr_var 7) (jr_int)))) (ja_cons (jg (j_r (jr_ix (sim_ix (K := K)) ix_seq (jr_var 7) (jr_int)))) (ja_nil))))))) (ja_nil))))))) (jss_nil (S := []))))) (jss_one (js_ret (S := []) (jn_callTy (sim_tuple (K := K)) call_tuple_of b_tuple z_tuple (jra_cons (jr_var 4) (jra_nil))))))⟩) (by decide)
theorem sc_cells_for : FnScope ["step", "base", "counters"] ["step", "base", "counters"] (defScope s_cells_for) := ⟨rfl, rfl, rfl, by decide +kernel, rfl, by decide +kernel, by decide +kernel⟩
theorem ok_cells_for {f_cells_for : Addr} {fd_cells_for : FuncData} (F_cells_for : L2.Fun K "cells_for" "cells_for" s_cells_for f_cells_for fd_cells_for) (hm_cells_for : mg "cells_for" = some (.ref f_cells_for)) (hb_cells_for : Binds K fd_cells_for ["step", "base", "counters"] []) (z_int : mg "int" = none) (z_list : mg "list" = none) (z_range : mg "range" = none) : Cal P w K mg base "cells_for" 2 3 m_cells_for :=
  cal_of (k := 1) F_cells_for hm_cells_for hb_cells_for sc_cells_for rfl rfl (fun cdv A outer s H E hr => ⟨_, jss_cons (js_if (jnt_cmp (sim_eq (K := K)) (op_eqP (hu64 hr)) (by rfl) (jr_ix (sim_ix (K := K)) ix_seq (jr_var 0) (jr_int)) (jr_str)) (jss_one (js_ret (S := []) (j_lst (ja_cons (jg (j_r (jr_ix (sim_ix (K := K)) ix_seq (jr_var 0) (jr_int)))) (ja_nil))))) (jss_nil (S := []))) (jss_cons (js_if (jnt_cmp (sim_eq (K := K)) (op_eqP (hu64 hr)) (by rfl) (jr_ix (sim_ix (K := K)) ix_seq (jr_var 0) (jr_int)) (jr_str)) (jss_one (js_ret (S := []) (j_lst (ja_cons (jg (jn_op (sim_I (K := K)) op_mod (jr_callTy (sim_int (K := K)) call_intP b_int z_int (jra_cons (jr_op (sim_I (K := K)) op_fdiv (jr_ix (sim_ix (K := K)) ix_seq (jr_var 2) (jr_ix (sim_ix (K := K)) ix_seq (jr_var 0) (jr_int))) (jr_ix (sim_ix (K := K)) ix_seq (jr_var 0) (jr_int))) (jra_nil))) (jr_var 1))) (ja_nil))))) (jss_nil (S := []))) (jss_one (js_ret (S := []) (j_lr1 rfl z_list z_range (j_var 1)))))⟩) (by decide)
theorem sc_raised_by : FnScope ["up", "content", "cell", "kind"] ["up", "content", "cell"] (defScope s_raised_by) := ⟨rfl, rfl, rfl, by decide +kernel, rfl, by decide +kernel, by decide +kernel⟩
theorem ok_raised_by {f_raised_by : Addr} {fd_raised_by : FuncData} (F_raised_by : L2.Fun K "raised_by" "raised_by" s_raised_by f_raised_by fd_raised_by) (hm_raised_by : mg "raised_by" = some (.ref f_raised_by)) (hb_raised_by : Binds K fd_raised_by ["up", "content", "cell"] []) (z_int : mg "int" = none) : Cal P w K mg base "raised_by" 2 3 m_raised_by :=
  cal_of (k := 1) F_raised_by hm_raised_by hb_raised_by sc_raised_by rfl rfl (fun cdv A outer s H E hr => ⟨_, jss_cons (js_set 3 sc_raised_by.nd (j_r (jr_ix (sim_ix (K := K)) ix_seq (jr_var 0) (jr_int)))) (jss_cons (js_if (jnt_cmp (sim_eq (K := K)) (op_eqP (hu64 hr)) (by rfl) (jr_var 3) (jr_str)) (jss_cons (js_aug 1 (sim_addI (K := K)) ip_addP sc_raised_by.nd (j_int)) (jss_cons (js_if (jnt_cmp (sim_B0 (K := K)) op_gt (by rfl) (jr_var 1) (jr_ix (sim_ix (K := K)) ix_seq (jr_var 0) (jr_int))) (jss_one (js_ret (S := []) (j_non))) (jss_nil (S := []))) (jss_one (js_ret (S := []) (j_var 1))))) (jss_nil (S := []))) (jss_cons (js_if (jnt_cmp (sim_eq (K := K)) (op_eqP (hu64 hr)) (by rfl) (jr_var 3) (jr_str)) (jss_cons (js_if (jnt_cmp (sim_eq (K := K)) (op_eqP (hu64 hr)) (by rfl) (jr_var 1) (jr_int)) (jss_one (js_ret (S := []) (j_non))) (jss_nil (S := []))) (jss_one (js_ret (S := []) (jn_op (sim_I0 (K := K)) op_sub (jr_var 1) (jr_int))))) (jss_nil (S := []))) (jss_cons (js_if (jnt_cmp (sim_eq (K := K)) (op_eqP (hu64 hr)) (by rfl) (jr_var 3) (jr_str)) (jss_one (js_ret (S := []) (jn_op (sim_I (K := K)) op_mod (jr_callTy (sim_int (K := K)) call_intP b_int z_int (jra_cons (jr_op (sim_add (K := K)) op_addP (jr_var 1) (jr_var 2)) (jra_nil))) (jr_ix (sim_ix (K := K)) ix_seq (jr_var 0) (jr_int))))) (jss_nil (S := []))) (jss_cons (js_if (jnt_cmp (sim_eq (K := K)) (op_eqP (hu64 hr)) (by rfl) (jr_var 3) (jr_str)) (jss_one (js_ret (S := []) (jn_op (sim_I (K := K)) op_mod (jr_callTy (sim_int (K := K)) call_intP b_int z_int (jra_cons (jr_op (sim_I0 (K := K)) op_sub (jr_var 1) (jr_var 2)) (jra_nil))) (jr_ix (sim_ix (K := K)) ix_seq (jr_var 0) (jr_int))))) (jss_nil (S := []))) (jss_cons (js_if (jnt_cmp (sim_eq (K := K)) (op_eqP (hu64 hr)) (by rfl) (jr_var 3) (jr_str)) (jss_one (js_ret (S := []) (jn_op (sim_I (K := K)) op_mod (jr_callTy (sim_int (K := K)) call_intP b_int z_int (jra_cons (jr_op (sim_add (K := K)) op_addP (jr_op (sim_I (K := K)) op_mul (jr_var 1) (jr_ix (sim_ix (K := K)) ix_seq (jr_var 0) (jr_int))) (jr_var 2)) (jra_nil))) (jr_ix (sim_ix (K := K)) ix_seq (jr_var 0) (jr_int))))) (jss_nil (S := []))) (jss_cons (js_if (jnt_cmp (sim_eq (K := K)) (op_eqP (hu64 hr)) (by rfl) (jr_var 3) (jr_str)) (jss_one (js_ret (S := []) (jn_op (sim_I (K := K)) op_mod (jr_callTy (sim_int (K := K)) call_intP b_int z_int (jra_cons (jr_op (sim_add (K := K)) op_addP (jr_var 1) (jr_int)) (jra_nil))) (jr_ix (sim_ix (K := K)) ix_seq (jr_var 0) (jr_int))))) (jss_nil (S := []))) (jss_one (js_ret (S := []) (j_int)))))))))⟩) (by decide)
theorem sc_counted : FnScope ["step", "base", "counters", "cell", "contents", "up", "content"] ["step", "base", "counters", "cell"] (defScope s_counted) := ⟨rfl, rfl, rfl, by decide +kernel, rfl, by decide +kernel, by decide +kernel⟩
theorem ok_counted {f_counted : Addr} {fd_counted : FuncData} (F_counted : L2.Fun K "counted" "counted" s_counted f_counted fd_counted) (hm_counted : mg "counted" = some (.ref f_counted)) (hb_counted : Binds K fd_counted ["step", "base", "counters", "cell"] []) (c_raised_by : Cal P w K mg base "raised_by" 2 3 m_raised_by) (z_list : mg "list" = none) (z_tuple : mg "tuple" = none) : Cal P w K mg base "counted" 3 4 m_counted :=
  cal_of (k := 2) F_counted hm_counted hb_counted sc_counted rfl rfl (fun cdv A outer s H E hr => ⟨_, jss_cons (js_set 4 sc_counted.nd (jn_callTy (sim_listP (K := K)) (call_listP rfl) b_list z_list (jra_cons (jr_var 2) (jra_nil)))) (jss_cons (js_if (jnt_cmp (sim_eq (K := K)) (op_eqP (hu64 hr)) (by rfl) (jr_ix (sim_ix (K := K)) ix_seq (jr_var 0) (jr_int)) (jr_str)) (jss_one (js_setIx (S := []) (i := 4) (sim_setL (K := K)) set_list (jn_op (sim_add (K := K)) op_addP (jr_op (sim_I (K := K)) op_mul (jr_ix (sim_ix (K := K)) ix_seq (jr_var 4) (jr_ix (sim_ix (K := K)) ix_seq (jr_var 0) (jr_int))) (jr_var 1)) (jr_var 3)) (jr_var 4) (jr_ix (sim_ix (K := K)) ix_seq (jr_var 0) (jr_int)))) (jss_nil (S := []))) (jss_cons (js_for (passes_of rfl) rfl (k_s K (j_r (jr_ix (sim_ix (K := K)) ix_seq (jr_var 0) (jr_un (sim_neg (K := K)) un_neg (jr_int))))) (jp_n 5 sc_counted.nd) (jss_cons (js_set 6 sc_counted.nd (k_fn K mg c_raised_by (hr.mono (by decide)) (takes_of rfl rfl rfl rfl) (ja_cons (jg_var 5) (ja_cons (jg (j_r (jr_ix (sim_ix (K := K)) ix_seq (jr_var 4) (jr_ix (sim_ix (K := K)) ix_seq (jr_var 5) (jr_int))))) (ja_cons (jg_var 3) (ja_nil)))))) (jss_cons (js_if (jnt_cmp (sim_isN (K := K)) op_isN (by rfl) (jr_var 6) (jr_non)) (jss_one (js_ret (S := []) (j_non))) (jss_nil (S := []))) (jss_one (js_setIx (S := []) (i := 4) (sim_setL (K := K)) set_list (j_var 6) (jr_var 4) (jr_ix (sim_ix (K := K)) ix_seq (jr_var 5) (jr_int))))))) (jss_one (js_ret (S := []) (jn_callTy (sim_tuple (K := K)) call_tuple_of b_tuple z_tuple (jra_cons (jr_var 4) (jra_nil)))))))⟩) (by decide)
theorem sc_with_content : FnScope ["counters", "counter", "content"] ["counters", "counter", "content"] (defScope s_with_content) := ⟨rfl, rfl, rfl, by decide +kernel, rfl, by decide +kernel, by decide +kernel⟩
theorem ok_with_content {f_with_content : Addr} {fd_with_content : FuncData} (F_with_content : L2.Fun K "with_content" "with_content" s_with_content f_with_content fd_with_content) (hm_with_content : mg "with_content" = some (.ref f_with_content)) (hb_with_content : Binds K fd_with_content ["counters", "counter", "content"] [])  : Cal P w K mg base "with_content" 2 3 m_with_content :=
  cal_of (k := 1) F_with_content hm_with_content hb_with_content sc_with_content rfl rfl (fun cdv A outer s H E hr => ⟨_, jss_one (js_ret (S := []) (j_op (sim_add (K := K)) op_addP (jg (j_op (sim_add (K := K)) op_addP (jg (k_sl K (jg_var 0) (jo_none) (jo_some (j_var 1)))) (jg (j_tup (ja_cons (jg (j_var 2)) (ja_nil)))))) (jg (k_sl K (jg_var 0) (jo_some (jn_op (sim_add (K := K)) op_addP (jr_var 1) (jr_int))) (jo_none)))))⟩) (by decide)
theorem sc_passed : FnScope ["step", "place", "counters", "kind", "content"] ["step", "place", "counters"] (defScope s_passed) := ⟨rfl, rfl, rfl, by decide +kernel, rfl, by decide +kernel, by decide +kernel⟩
theorem ok_passed {f_passed : Addr} {fd_passed : FuncData} (F_passed : L2.Fun K "passed" "passed" s_passed f_passed fd_passed) (hm_passed : mg "passed" = some (.ref f_passed)) (hb_passed : Binds K fd_passed ["step", "place", "counters"] []) (c_with_content : Cal P w K mg base "with_content" 2 3 m_with_content) : Cal P w K mg base "passed" 3 3 m_passed :=
  cal_of (k := 2) F_passed hm_passed hb_passed sc_passed rfl rfl (fun cdv A outer s H E hr => ⟨_, jss_cons (js_set 3 sc_passed.nd (j_r (jr_ix (sim_ix (K := K)) ix_seq (jr_var 0) (jr_int)))) (jss_cons (js_if (jnt_cmp (sim_eq (K := K)) (op_eqP (hu64 hr)) (by rfl) (jr_var 3) (jr_str)) (jss_one (js_ret (S := []) (j_tup (ja_cons (jg (j_r (jr_ix (sim_ix (K := K)) ix_seq (jr_var 0) (jr_int)))) (ja_cons (jg (j_var 2)) (ja_nil)))))) (jss_nil (S := []))) (jss_cons (js_if (jnt_cmp (sim_eq (K := K)) (op_eqP (hu64 hr)) (by rfl) (jr_var 3) (jr_str)) (jss_one (js_ret (S := []) (j_non))) (jss_nil (S := []))) (jss_cons (js_set 4 sc_passed.nd (j_r (jr_ix (sim_ix (K := K)) ix_seq (jr_var 2) (jr_ix (sim_ix (K := K)) ix_seq (jr_var 0) (jr_int))))) (jss_cons (js_if (jnt_cmp (sim_eq (K := K)) (op_eqP (hu64 hr)) (by rfl) (jr_var 3) (jr_str)) (jss_cons (js_if (jnt_cmp (sim_eq (K := K)) (op_eqP (hu64 hr)) (by rfl) (jr_var 4) (jr_int)) (jss_one (js_ret (S := []) (j_tup (ja_cons (jg (j_r (jr_ix (sim_ix (K := K)) ix_seq (jr_var 0) (jr_int)))) (ja_cons (jg (j_var 2)) (ja_nil)))))) (jss_nil (S := []))) (jss_one (js_ret (S := []) (j_tup (ja_cons (jg (jn_op (sim_add (K := K)) op_addP (jr_var 1) (jr_int))) (ja_cons (jg (j_var 2)) (ja_nil))))))) (jss_nil (S := []))) (jss_cons (js_if (JW.t (jw_and (jnt_cmp (sim_eq (K := K)) (op_eqP (hu64 hr)) (by rfl) (jr_var 3) (jr_str)) (jw_and1 (jnt_cmp (sim_ne (K := K)) (op_neP (hu64 hr)) (by rfl) (jr_var 4) (jr_ix (sim_ix (K := K)) ix_seq (jr_var 0) (jr_int)))))) (jss_one (js_ret (S := []) (j_non))) (jss_nil (S := []))) (jss_cons (js_if (JW.t (jw_and (jnt_cmp (sim_eq (K := K)) (op_eqP (hu64 hr)) (by rfl) (jr_var 3) (jr_str)) (jw_and1 (jt_not (jnt_chain (sim_B0 (K := K)) op_le (sim_B0 (K := K)) op_le (jr_ix (sim_ix (K := K)) ix_seq (jr_var 0) (jr_int)) (jr_var 4) (jr_ix (sim_ix (K := K)) ix_seq (jr_var 0) (jr_int))))))) (jss_one (js_ret (S := []) (j_non))) (jss_nil (S := []))) (jss_cons (js_if (jnt_cmp (sim_eq (K := K)) (op_eqP (hu64 hr)) (by rfl) (jr_var 3) (jr_str)) (jss_one (js_ret (S := []) (j_tup (ja_cons (jg (jn_op (sim_add (K := K)) op_addP (jr_var 1) (jr_int))) (ja_cons (jg (k_fn K mg c_with_content (hr.mono (by decide)) (takes_of rfl rfl rfl rfl) (ja_cons (jg_var 2) (ja_cons (jg (j_r (jr_ix (sim_ix (K := K)) ix_seq (jr_var 0) (jr_int)))) (ja_cons (jg (j_r (jr_ix (sim_ix (K := K)) ix_seq (jr_var 0) (jr_int)))) (ja_nil)))))) (ja_nil)))))) (jss_nil (S := []))) (jss_cons (js_if (jnt_cmp (sim_eq (K := K)) (op_eqP (hu64 hr)) (by rfl) (jr_var 3) (jr_str)) (jss_cons (js_aug 4 (sim_addI (K := K)) ip_addP sc_passed.nd (j_r (jr_ix (sim_ix (K := K)) ix_seq (jr_var 0) (jr_int)))) (jss_cons (js_if (jt_not (jnt_chain (sim_B0 (K := K)) op_le (sim_B0 (K := K)) op_le (jr_int) (jr_var 4) (jr_ix (sim_ix (K := K)) ix_seq (jr_var 0) (jr_int)))) (jss_one (js_ret (S := []) (j_non))) (jss_nil (S := []))) (jss_one (js_ret (S := []) (j_tup (ja_cons (jg (jn_op (sim_add (K := K)) op_addP (jr_var 1) (jr_int))) (ja_cons (jg (k_fn K mg c_with_content (hr.mono (by decide)) (takes_of rfl rfl rfl rfl) (ja_cons (jg_var 2) (ja_cons (jg (j_r (jr_ix (sim_ix (K := K)) ix_seq (jr_var 0) (jr_int)))) (ja_cons (jg_var 4) (ja_nil)))))) (ja_nil)))))))) (jss_nil (S := []))) (jss_one (js_ret (S := []) (j_tup (ja_cons (jg (jn_op (sim_add (K := K)) op_addP (jr_var 1) (jr_int))) (ja_cons (jg (j_var 2)) (ja_nil))))))))))))))⟩) (by decide)
theorem sc_settle : FnScope ["steps", "place", "counters", "found", "waiting", "ways", "step", "choices", "number", "after"] ["steps", "place", "counters"] (defScope s_settle) := ⟨rfl, rfl, rfl, by decide +kernel, rfl, by decide +kernel, by decide +kernel⟩
theorem ok_settle {f_settle : Addr} {fd_settle : FuncData} (F_settle : L2.Fun K "settle" "settle" s_settle f_settle fd_settle) (hm_settle : mg "settle" = some (.ref f_settle)) (hb_settle : Binds K fd_settle ["steps", "place", "counters"] []) (c_passed : Cal P w K mg base "passed" 3 3 m_passed) (z_len : mg "len" = none) (z_range : mg "range" = none) (z_reversed : mg "reversed" = none) (z_tuple : mg "tuple" = none) (gl_MOST_WAYS : GlbT K mg "MOST_WAYS" (.int 5000)) (gl_TAKING : GlbT K mg "TAKING" (.tup [(.str "cell"), (.str "any"), (.str "keep"), (.str "tell")])) {C_TooMany f_TooMany : Addr} (x_TooMany : PySem.SXE.SxTxt P K mg "TooMany" C_TooMany f_TooMany ["what"]) : Cal P w K mg base "settle" 4 3 m_settle :=
  cal_of (k := 3) F_settle hm_settle hb_settle sc_settle rfl rfl (fun cdv A outer s H E hr => ⟨_, jss_cons (js_set 3 sc_settle.nd (j_lst (ja_nil))) (jss_cons (js_set 4 sc_settle.nd (j_lst (ja_cons (jg (j_tup (ja_cons (jg (j_var 1)) (ja_cons (jg (j_var 2)) (ja_cons (jg (j_tup (ja_nil))) (ja_nil)))))) (ja_nil)))) (jss_cons (js_set 5 sc_settle.nd (j_int)) (jss_cons (js_while 100000 (passes_of rfl) (jt_tru K (jr_var 4)) (jss_cons (js_asg (k_meth0 K PySem.F.plainAttrs_list PySem.F.slot_list_pop PySem.F.type_list_pop (sim_pop (K := K)) mt_pop (jr_var 4)) (k_t K rfl (jps_cons (jp_n 1 sc_settle.nd) (jps_cons (jp_n 2 sc_settle.nd) (jps_cons (jp_n 7 sc_settle.nd) (jps_nil (S := []))))))) (jss_cons (js_aug 5 (sim_addI (K := K)) ip_addP sc_settle.nd (j_int)) (jss_cons (js_if (jnt_cmp (sim_B0 (K := K)) op_gt (by rfl) (jr_var 5) (jr_glob K mg gl_MOST_WAYS)) (jss_one (js_raise (k := 0) rfl (takes_of rfl rfl rfl rfl) x_TooMany (by decide +kernel) (hr.mono (by decide)) rfl (ja_cons (jg (j_str)) (ja_nil)))) (jss_nil (S := []))) (jss_cons (js_set 6 sc_settle.nd (j_r (jr_ix (sim_ix (K := K)) ix_seq (jr_var 0) (jr_var 1)))) (jss_one (js_if (JW.t (jw_or (jnt_cmp (sim_in (K := K)) (op_inP (hu65 hr)) (by rfl) (jr_ix (sim_ix (K := K)) ix_seq (jr_var 6) (jr_int)) (jr_glob K mg gl_TAKING)) (jw_or1 (jnt_cmp (sim_eq (K := K)) (op_eqP (hu64 hr)) (by rfl) (jr_ix (sim_ix (K := K)) ix_seq (jr_var 6) (jr_int)) (jr_str))))) (jss_one (js_expr (S := []) (k_meth K PySem.F.plainAttrs_list PySem.F.slot_list_append PySem.F.type_list_append (sim_append (K := K)) mt_append (jr_var 3) (ja_cons (jg (j_tup (ja_cons (jg (j_var 7)) (ja_cons (jg (j_tup (ja_cons (jg (j_var 1)) (ja_cons (jg (j_var 2)) (ja_nil))))) (ja_nil))))) (ja_nil))))) (jss_one (js_if (jnt_cmp (sim_eq (K := K)) (op_eqP (hu64 hr)) (by rfl) (jr_ix (sim_ix (K := K)) ix_seq (jr_var 6) (jr_int)) (jr_str)) (jss_one (js_for (passes_of rfl) rfl (ji_rv z_reversed z_range (jn_callB (sim_len (K := K)) call_len b_len z_len (jra_cons (jr_ix (sim_ix (K := K)) ix_seq (jr_var 6) (jr_int)) (jra_nil)))) (jp_n 8 sc_settle.nd) (jss_one (js_expr (S := []) (k_meth K PySem.F.plainAttrs_list PySem.F.slot_list_append PySem.F.type_list_append (sim_append (K := K)) mt_append (jr_var 4) (ja_cons (jg (j_tup (ja_cons (jg (j_r (jr_ix (sim_ix (K := K)) ix_seq (jr_ix (sim_ix (K := K)) ix_seq (jr_var 6) (jr_int)) (jr_var 8)))) (ja_cons (jg (j_var 2)) (ja_cons (jg (j_op (sim_add (K := K)) op_addP (jg_var 7) (jg (j_tup (ja_cons (jg (j_var 8)) (ja_nil)))))) (ja_nil)))))) (ja_nil))))))) (jss_cons (js_set 9 sc_settle.nd (k_fn K mg c_passed (hr.mono (by decide)) (takes_of rfl rfl rfl rfl) (ja_cons (jg_var 6) (ja_cons (jg_var 1) (ja_cons (jg_var 2) (ja_nil)))))) (jss_one (js_if (jnt_cmp (sim_notN (K := K)) op_notN (by rfl) (jr_var 9) (jr_non)) (jss_one (js_expr (S := []) (k_meth K PySem.F.plainAttrs_list PySem.F.slot_list_append PySem.F.type_list_append (sim_append (K := K)) mt_append (jr_var 4) (ja_cons (jg (j_tup (ja_cons (jg (j_r (jr_ix (sim_ix (K := K)) ix_seq (jr_var 9) (jr_int)))) (ja_cons (jg (j_r (jr_ix (sim_ix (K := K)) ix_seq (jr_var 9) (jr_int)))) (ja_cons (jg (j_var 7)) (ja_nil)))))) (ja_nil))))) (jss_nil (S := [])))))))))))))) (jss_one (js_ret (S := []) (jn_callTy (sim_tuple (K := K)) call_tuple_of b_tuple z_tuple (jra_cons (jr_var 3) (jra_nil))))))))⟩) (by decide)
theorem sc_moves : FnScope ["steps", "base", "standing", "step", "found", "cell", "place", "counters", "after", "choices", "other"] ["steps", "base", "standing"] (defScope s_moves) := ⟨rfl, rfl, rfl, by decide +kernel, rfl, by decide +kernel, by decide +kernel⟩
theorem ok_moves {f_moves : Addr} {fd_moves : FuncData} (F_moves : L2.Fun K "moves" "moves" s_moves f_moves fd_moves) (hm_moves : mg "moves" = some (.ref f_moves)) (hb_moves : Binds K fd_moves ["steps", "base", "standing"] []) (c_cells_for : Cal P w K mg base "cells_for" 2 3 m_cells_for) (c_counted : Cal P w K mg base "counted" 3 4 m_counted) (c_settle : Cal P w K mg base "settle" 4 3 m_settle) (z_tuple : mg "tuple" = none) : Cal P w K mg base "moves" 5 3 m_moves :=
  cal_of (k := 4) F_moves hm_moves hb_moves sc_moves rfl rfl (fun cdv A outer s H E hr => ⟨_, jss_cons (js_asg (j_var 2) (k_t K rfl (jps_cons (jp_n 6 sc_moves.nd) (jps_cons (jp_n 7 sc_moves.nd) (jps_nil (S := [])))))) (jss_cons (js_set 3 sc_moves.nd (j_r (jr_ix (sim_ix (K := K)) ix_seq (jr_var 0) (jr_var 6)))) (jss_cons (js_set 4 sc_moves.nd (j_lst (ja_nil))) (jss_cons (js_if (jnt_cmp (sim_eq (K := K)) (op_eqP (hu64 hr)) (by rfl) (jr_ix (sim_ix (K := K)) ix_seq (jr_var 3) (jr_int)) (jr_str)) (jss_one (js_ret (S := []) (j_tup (ja_nil)))) (jss_nil (S := []))) (jss_cons (js_for (passes_of rfl) rfl (k_s K (k_fn K mg c_cells_for (hr.mono (by decide)) (takes_of rfl rfl rfl rfl) (ja_cons (jg_var 3) (ja_cons (jg_var 1) (ja_cons (jg_var 7) (ja_nil)))))) (jp_n 5 sc_moves.nd) (jss_cons (js_set 8 sc_moves.nd (k_fn K mg c_counted (hr.mono (by decide)) (takes_of rfl rfl rfl rfl) (ja_cons (jg_var 3) (ja_cons (jg_var 1) (ja_cons (jg_var 7) (ja_cons (jg_var 5) (ja_nil))))))) (jss_one (js_if (jnt_cmp (sim_notN (K := K)) op_notN (by rfl) (jr_var 8) (jr_non)) (jss_one (js_for (passes_of rfl) rfl (k_s K (k_fn K mg c_settle (hr.mono (by decide)) (takes_of rfl rfl rfl rfl) (ja_cons (jg_var 0) (ja_cons (jg (jn_op (sim_add (K := K)) op_addP (jr_var 6) (jr_int))) (ja_cons (jg_var 8) (ja_nil)))))) (k_t K rfl (jps_cons (jp_n 9 sc_moves.nd) (jps_cons (jp_n 10 sc_moves.nd) (jps_nil (S := []))))) (jss_one (js_expr (S := []) (k_meth K PySem.F.plainAttrs_list PySem.F.slot_list_append PySem.F.type_list_append (sim_append (K := K)) mt_append (jr_var 4) (ja_cons (jg (j_tup (ja_cons (jg (j_var 5)) (ja_cons (jg (j_var 9)) (ja_cons (jg (j_var 10)) (ja_nil)))))) (ja_nil))))))) (jss_nil (S := [])))))) (jss_one (js_ret (S := []) (jn_callTy (sim_tuple (K := K)) call_tuple_of b_tuple z_tuple (jra_cons (jr_var 4) (jra_nil)))))))))⟩) (by decide)
theorem sc__law_holds : FnScope ["world", "standing", "base", "many", "steps"] ["world", "standing"] (defScope s__law_holds) := ⟨rfl, rfl, rfl, by decide +kernel, rfl, by decide +kernel, by decide +kernel⟩
theorem ok__law_holds {f__law_holds : Addr} {fd__law_holds : FuncData} (F__law_holds : L2.Fun K "_law_holds" "_law_holds" s__law_holds f__law_holds fd__law_holds) (hm__law_holds : mg "_law_holds" = some (.ref f__law_holds)) (hb__law_holds : Binds K fd__law_holds ["world", "standing"] []) (c__law_same : Cal P w K mg base "_law_same" 11 2 (m__law_same 8)) (c_moves : Cal P w K mg base "moves" 5 3 m_moves) (c__law_due : Cal P w K mg base "_law_due" 4 4 m__law_due) : Cal P w K mg base "_law_holds" 12 2 m__law_holds :=
  cal_of (k := 11) F__law_holds hm__law_holds hb__law_holds sc__law_holds rfl rfl (fun cdv A outer s H E hr => ⟨_, jss_cons (js_asg (j_var 0) (k_t K rfl (jps_cons (jp_n 2 sc__law_holds.nd) (jps_cons (jp_n 3 sc__law_holds.nd) (jps_cons (jp_n 4 sc__law_holds.nd) (jps_nil (S := []))))))) (jss_one (js_ret (S := []) (k_fn K mg c__law_same (hr.mono (by decide)) (takes_of rfl rfl rfl rfl) (ja_cons (jg (k_fn K mg c__law_due (hr.mono (by decide)) (takes_of rfl rfl rfl rfl) (ja_cons (jg_var 4) (ja_cons (jg_var 2) (ja_cons (jg (j_r (jr_ix (sim_ix (K := K)) ix_seq (jr_var 1) (jr_int)))) (ja_cons (jg (j_r (jr_ix (sim_ix (K := K)) ix_seq (jr_var 1) (jr_int)))) (ja_nil))))))) (ja_cons (jg (k_fn K mg c_moves (hr.mono (by decide)) (takes_of rfl rfl rfl rfl) (ja_cons (jg_var 4) (ja_cons (jg_var 2) (ja_cons (jg_var 1) (ja_nil)))))) (ja_nil))))))⟩) (by decide)
theorem sc_law : FnScope ["script", "d", "one", "other", "first", "turn", "end"] ["script"] (defScope s_law) := ⟨rfl, rfl, rfl, by decide +kernel, rfl, by decide +kernel, by decide +kernel⟩
theorem ok_law {f : Addr} {fd : FuncData} (F : L2.Fun K "law" "law" s_law f fd) (c__law_begin : Cal P w K mg base "_law_begin" 2 1 m__law_begin) (c__law_row_of_steps : Cal P w K mg base "_law_row_of_steps" 5 1 m__law_row_of_steps) (c__law_standing : Cal P w K mg base "_law_standing" 4 2 m__law_standing) (c__law_holds : Cal P w K mg base "_law_holds" 12 2 m__law_holds) (c_moves : Cal P w K mg base "moves" 5 3 m_moves) (z_len : mg "len" = none) (z_range : mg "range" = none) : FnOk P w K mg base (L2.CX P w) 13 f fd ["script"] (spF K mg 1 m_law) :=
  fnok_of (k := 12) F sc_law rfl rfl (fun cdv A outer s H E hr => ⟨_, jss_cons (js_set 1 sc_law.nd (k_fn K mg c__law_begin (hr.mono (by decide)) (takes_of rfl rfl rfl rfl) (ja_cons (jg_var 0) (ja_nil)))) (jss_cons (js_set 2 sc_law.nd (k_fn K mg c__law_row_of_steps (hr.mono (by decide)) (takes_of rfl rfl rfl rfl) (ja_cons (jg_var 1) (ja_nil)))) (jss_cons (js_set 3 sc_law.nd (k_fn K mg c__law_row_of_steps (hr.mono (by decide)) (takes_of rfl rfl rfl rfl) (ja_cons (jg_var 1) (ja_nil)))) (jss_cons (js_set 4 sc_law.nd (k_fn K mg c__law_standing (hr.mono (by decide)) (takes_of rfl rfl rfl rfl) (ja_cons (jg_var 1) (ja_cons (jg_var 2) (ja_nil))))) (jss_cons (js_if (jt_not (jt_val (k_fn K mg c__law_holds (hr.mono (by decide)) (takes_of rfl rfl rfl rfl) (ja_cons (jg_var 2) (ja_cons (jg_var 4) (ja_nil)))))) (jss_one (js_ret (S := []) (j_bl))) (jss_nil (S := []))) (jss_cons (js_for (passes_of rfl) rfl (ji_r1 z_range (ja_cons (jg (j_int)) (ja_nil))) (jp_n 5 sc_law.nd) (jss_cons (js_if (jt_not (jt_val (k_fn K mg c__law_holds (hr.mono (by decide)) (takes_of rfl rfl rfl rfl) (ja_cons (jg_var 3) (ja_cons (jg (k_fn K mg c__law_standing (hr.mono (by decide)) (takes_of rfl rfl rfl rfl) (ja_cons (jg_var 1) (ja_cons (jg_var 3) (ja_nil))))) (ja_nil)))))) (jss_one (js_ret (S := []) (j_bl))) (jss_nil (S := []))) (jss_one (js_if (jt_not (jt_val (k_fn K mg c__law_holds (hr.mono (by decide)) (takes_of rfl rfl rfl rfl) (ja_cons (jg_var 2) (ja_cons (jg (k_fn K mg c__law_standing (hr.mono (by decide)) (takes_of rfl rfl rfl rfl) (ja_cons (jg_var 1) (ja_cons (jg_var 2) (ja_nil))))) (ja_nil)))))) (jss_one (js_ret (S := []) (j_bl))) (jss_nil (S := [])))))) (jss_cons (js_set 6 sc_law.nd (j_tup (ja_cons (jg (jn_op (sim_I0 (K := K)) op_sub (jr_callB (sim_len (K := K)) call_len b_len z_len (jra_cons (jr_ix (sim_ix (K := K)) ix_seq (jr_var 2) (jr_int)) (jra_nil))) (jr_int))) (ja_cons (jg (j_r (jr_ix (sim_ix (K := K)) ix_seq (jr_var 4) (jr_int)))) (ja_nil))))) (jss_one (js_ret (S := []) (j_and (j_cmp (sim_eq (K := K)) (op_eqP (hu64 hr)) (by rfl) (jg (k_fn K mg c_moves (hr.mono (by decide)) (takes_of rfl rfl rfl rfl) (ja_cons (jg (j_r (jr_ix (sim_ix (K := K)) ix_seq (jr_var 2) (jr_int)))) (ja_cons (jg (j_r (jr_ix (sim_ix (K := K)) ix_seq (jr_var 2) (jr_int)))) (ja_cons (jg_var 6) (ja_nil)))))) (jg (j_tup (ja_nil)))) (j_and (k_fn K mg c__law_holds (hr.mono (by decide)) (takes_of rfl rfl rfl rfl) (ja_cons (jg_var 2) (ja_cons (jg_var 6) (ja_nil)))) (j_one (k_fn K mg c__law_holds (hr.mono (by decide)) (takes_of rfl rfl rfl rfl) (ja_cons (jg_var 2) (ja_cons (jg_var 4) (ja_nil)))))))))))))))⟩) (by decide)
end
end K28

/-! N1: ways of settling in plain Lean: a tree of nodes, gone along deep first and level by level. -/
namespace NW
/-- a node: the choices, what it is -/
structure Nd (α : Type) where
  ch : List Nat
  st : α
/-- what is behind a node: it is an end, or the nodes behind it with one number more (a fork) or none (a pass) -/
inductive Bh (α : Type) where
  | fin
  | fork (ts : List α)
  | pass (ts : List α)
variable {α : Type} (f : α → Bh α)
/-- the ends behind a state, by so many turns -/
def ways : Nat → α → List (List Nat × α)
  | 0, _ => []
  | n + 1, a => match f a with
    | .fin => [([], a)]
    | .fork ts => (ts.zipIdx.map fun t => (ways n t.1).map fun w => (t.2 :: w.1, w.2)).flatten
    | .pass ts => (ts.map fun t => ways n t).flatten
/-- so many turns are enough -/
def Done : Nat → α → Prop
  | 0, _ => False
  | n + 1, a => match f a with
    | .fin => True
    | .fork ts => ∀ t ∈ ts, Done n t
    | .pass ts => ∀ t ∈ ts, Done n t
theorem Done.up : ∀ {n : Nat} {a : α}, Done f n a → Done f (n + 1) a
  | 0, _, h => h.elim
  | n + 1, a, h => by
    unfold Done at h ⊢
    cases e : f a with
    | fin => trivial
    | fork ts => rw [e] at h; exact fun t ht => Done.up (h t ht)
    | pass ts => rw [e] at h; exact fun t ht => Done.up (h t ht)
theorem ways_up : ∀ {n : Nat} {a : α}, Done f n a → ways f (n + 1) a = ways f n a
  | 0, _, h => h.elim
  | n + 1, a, h => by
    have h' := h
    unfold Done at h'
    rw [ways, ways]
    cases e : f a with
    | fin => rfl
    | fork ts =>
      rw [e] at h'
      have : ts.zipIdx.map (fun t => (ways f (n + 1) t.1).map fun w => (t.2 :: w.1, w.2)) = ts.zipIdx.map (fun t => (ways f n t.1).map fun w => (t.2 :: w.1, w.2)) := by
        refine List.map_congr_left fun t ht => ?_
        have ht1 : t.1 ∈ ts := by
          have := List.fst_mem_of_mem_zipIdx ht
          exact this
        rw [ways_up (h' t.1 ht1)]
      simp only [this]
    | pass ts =>
      rw [e] at h'
      have : ts.map (fun t => ways f (n + 1) t) = ts.map (fun t => ways f n t) := List.map_congr_left fun t ht => ways_up (h' t ht)
      simp only [this]
/-- how many nodes are met -/
def size : Nat → α → Nat
  | 0, _ => 0
  | n + 1, a => match f a with
    | .fin => 1
    | .fork ts => 1 + (ts.map fun t => size n t).sum
    | .pass ts => 1 + (ts.map fun t => size n t).sum
/-- deep first: the nodes that wait, the next one first -/
def deep : Nat → List (Nd α) → List (List Nat × α)
  | 0, _ => []
  | _ + 1, [] => []
  | n + 1, x :: r => match f x.st with
    | .fin => (x.ch, x.st) :: deep n r
    | .fork ts => deep n ((ts.zipIdx.map fun t => ⟨x.ch ++ [t.2], t.1⟩) ++ r)
    | .pass ts => deep n ((ts.map fun t => ⟨x.ch, t⟩) ++ r)
def pre (c : List Nat) (ws : List (List Nat × α)) : List (List Nat × α) := ws.map fun w => (c ++ w.1, w.2)
theorem pre_nil (ws : List (List Nat × α)) : pre [] ws = ws := by
  unfold pre
  simp
theorem pre_pre (c d : List Nat) (ws : List (List Nat × α)) : pre c (pre d ws) = pre (c ++ d) ws := by
  unfold pre
  rw [List.map_map]
  refine List.map_congr_left fun w _ => ?_
  simp
theorem pre_flat (c : List Nat) (l : List (List (List Nat × α))) : pre c l.flatten = (l.map (pre c)).flatten := by
  unfold pre
  rw [List.map_flatten]
/-- what waits, told by its ends -/
def sumW (m : Nat) (l : List (Nd α)) : List (List Nat × α) := (l.map fun x => pre x.ch (ways f m x.st)).flatten
def sumS (m : Nat) (l : List (Nd α)) : Nat := (l.map fun x => size f m x.st).sum
theorem size_up : ∀ {n : Nat} {a : α}, Done f n a → size f (n + 1) a = size f n a
  | 0, _, h => h.elim
  | n + 1, a, h => by
    have h' := h
    unfold Done at h'
    rw [size, size]
    cases e : f a with
    | fin => rfl
    | fork ts =>
      rw [e] at h'
      have : ts.map (fun t => size f (n + 1) t) = ts.map (fun t => size f n t) := List.map_congr_left fun t ht => size_up (h' t ht)
      simp only [this]
    | pass ts =>
      rw [e] at h'
      have : ts.map (fun t => size f (n + 1) t) = ts.map (fun t => size f n t) := List.map_congr_left fun t ht => size_up (h' t ht)
      simp only [this]
theorem deep_ok : ∀ (n m : Nat) (l : List (Nd α)), (∀ x ∈ l, Done f m x.st) → sumS f m l < n → deep f n l = sumW f m l
  | 0, m, l, _, h => by omega
  | n + 1, m, [], _, _ => rfl
  | n + 1, m, x :: r, hd, hs => by
    have hx := hd x List.mem_cons_self
    have hr : ∀ y ∈ r, Done f m y.st := fun y hy => hd y (List.mem_cons_of_mem _ hy)
    obtain ⟨k, rfl⟩ : ∃ k, m = k + 1 := by
      cases m with
      | zero => exact hx.elim
      | succ k => exact ⟨k, rfl⟩
    have hs' : size f (k + 1) x.st + sumS f (k + 1) r < n + 1 := hs
    have hx' := hx
    unfold Done at hx'
    show (match f x.st with | .fin => _ | .fork ts => _ | .pass ts => _) = pre x.ch (ways f (k + 1) x.st) ++ sumW f (k + 1) r
    rw [size] at hs'
    rw [ways]
    cases e : f x.st with
    | fin =>
      rw [e] at hs'
      simp only at hs' ⊢
      rw [deep_ok n (k + 1) r hr (by omega)]
      simp [pre]
    | fork ts =>
      rw [e] at hs' hx'
      simp only at hs' hx' ⊢
      have hz : ∀ (ts : List α) (i : Nat), (∀ t ∈ ts, Done f k t) → (∀ y ∈ (ts.zipIdx i).map (fun t => (⟨x.ch ++ [t.2], t.1⟩ : Nd α)), Done f (k + 1) y.st) ∧ sumS f (k + 1) ((ts.zipIdx i).map fun t => ⟨x.ch ++ [t.2], t.1⟩) = (ts.map fun t => size f k t).sum ∧
          sumW f (k + 1) ((ts.zipIdx i).map fun t => ⟨x.ch ++ [t.2], t.1⟩) = pre x.ch ((ts.zipIdx i).map fun t => (ways f k t.1).map fun w => (t.2 :: w.1, w.2)).flatten := by
        intro ts
        induction ts with
        | nil => intro i _; exact ⟨by simp, rfl, rfl⟩
        | cons t ts ih =>
          intro i ht
          obtain ⟨h1, h2, h3⟩ := ih (i + 1) fun y hy => ht y (List.mem_cons_of_mem _ hy)
          have ht0 := ht t List.mem_cons_self
          rw [List.zipIdx_cons]
          refine ⟨?_, ?_, ?_⟩
          · intro y hy
            rw [List.map_cons] at hy
            rcases List.mem_cons.mp hy with rfl | hy
            · exact ht0.up
            · exact h1 y hy
          · show size f (k + 1) t + sumS f (k + 1) _ = _
            rw [h2, size_up f ht0]
            rfl
          · show pre (x.ch ++ [i]) (ways f (k + 1) t) ++ sumW f (k + 1) _ = _
            rw [h3, ways_up f ht0, List.map_cons, List.flatten_cons, pre, pre, pre, List.map_append, List.map_map]
            congr 1
            refine List.map_congr_left fun w _ => ?_
            simp
      obtain ⟨g1, g2, g3⟩ := hz ts 0 hx'
      rw [deep_ok n (k + 1) _ (fun y hy => by
        rcases List.mem_append.mp hy with hy | hy
        · exact g1 y hy
        · exact hr y hy) (by
        show ((((ts.zipIdx 0).map fun t => (⟨x.ch ++ [t.2], t.1⟩ : Nd α)) ++ r).map fun x => size f (k + 1) x.st).sum < n
        rw [List.map_append, List.sum_append]
        have : ((((ts.zipIdx 0).map fun t => (⟨x.ch ++ [t.2], t.1⟩ : Nd α))).map fun x => size f (k + 1) x.st).sum = (ts.map fun t => size f k t).sum := g2
        rw [this]
        show _ + sumS f (k + 1) r < n
        omega)]
      show ((((ts.zipIdx 0).map fun t => (⟨x.ch ++ [t.2], t.1⟩ : Nd α)) ++ r).map fun x => pre x.ch (ways f (k + 1) x.st)).flatten = _
      rw [List.map_append, List.flatten_append]
      exact congrArg (· ++ sumW f (k + 1) r) g3
    | pass ts =>
      rw [e] at hs' hx'
      simp only at hs' hx' ⊢
      have hz : ∀ (ts : List α), (∀ t ∈ ts, Done f k t) → (∀ y ∈ ts.map (fun t => (⟨x.ch, t⟩ : Nd α)), Done f (k + 1) y.st) ∧ sumS f (k + 1) (ts.map fun t => ⟨x.ch, t⟩) = (ts.map fun t => size f k t).sum ∧
          sumW f (k + 1) (ts.map fun t => ⟨x.ch, t⟩) = pre x.ch (ts.map fun t => ways f k t).flatten := by
        intro ts
        induction ts with
        | nil => intro _; exact ⟨by simp, rfl, rfl⟩
        | cons t ts ih =>
          intro ht
          obtain ⟨h1, h2, h3⟩ := ih fun y hy => ht y (List.mem_cons_of_mem _ hy)
          have ht0 := ht t List.mem_cons_self
          refine ⟨?_, ?_, ?_⟩
          · intro y hy
            rw [List.map_cons] at hy
            rcases List.mem_cons.mp hy with rfl | hy
            · exact ht0.up
            · exact h1 y hy
          · show size f (k + 1) t + sumS f (k + 1) _ = _
            rw [h2, size_up f ht0]
            rfl
          · show pre x.ch (ways f (k + 1) t) ++ sumW f (k + 1) _ = _
            rw [h3, ways_up f ht0, List.map_cons, List.flatten_cons]
            unfold pre
            rw [List.map_append]
      obtain ⟨g1, g2, g3⟩ := hz ts hx'
      rw [deep_ok n (k + 1) _ (fun y hy => by
        rcases List.mem_append.mp hy with hy | hy
        · exact g1 y hy
        · exact hr y hy) (by
        show (((ts.map fun t => (⟨x.ch, t⟩ : Nd α)) ++ r).map fun x => size f (k + 1) x.st).sum < n
        rw [List.map_append, List.sum_append]
        have : (((ts.map fun t => (⟨x.ch, t⟩ : Nd α))).map fun x => size f (k + 1) x.st).sum = (ts.map fun t => size f k t).sum := g2
        rw [this]
        show _ + sumS f (k + 1) r < n
        omega)]
      show (((ts.map fun t => (⟨x.ch, t⟩ : Nd α)) ++ r).map fun x => pre x.ch (ways f (k + 1) x.st)).flatten = _
      rw [List.map_append, List.flatten_append]
      exact congrArg (· ++ sumW f (k + 1) r) g3
end NW

/-! N2: ways of settling: level by level; their order. -/
namespace NW
variable {α : Type} (f : α → Bh α)
def isFin (x : Nd α) : List (List Nat × α) := match f x.st with
  | .fin => [(x.ch, x.st)]
  | _ => []
def next (x : Nd α) : List (Nd α) := match f x.st with
  | .fin => []
  | .fork ts => ts.zipIdx.map fun t => ⟨x.ch ++ [t.2], t.1⟩
  | .pass ts => ts.map fun t => ⟨x.ch, t⟩
/-- level by level -/
def lev : Nat → List (Nd α) → List (List Nat × α)
  | 0, _ => []
  | n + 1, l => (l.map (isFin f)).flatten ++ lev n (l.map (next f)).flatten
theorem next_done {m : Nat} {x : Nd α} (h : Done f (m + 1) x.st) : ∀ y ∈ next f x, Done f m y.st := by
  unfold Done at h
  unfold next
  cases e : f x.st with
  | fin => simp
  | fork ts =>
    rw [e] at h
    intro y hy
    obtain ⟨t, ht, rfl⟩ := List.mem_map.mp hy
    exact h t.1 (List.fst_mem_of_mem_zipIdx ht)
  | pass ts =>
    rw [e] at h
    intro y hy
    obtain ⟨t, ht, rfl⟩ := List.mem_map.mp hy
    exact h t ht
theorem one_sum (m : Nat) (x : Nd α) : pre x.ch (ways f (m + 1) x.st) = isFin f x ++ sumW f m (next f x) := by
  rw [ways]
  unfold isFin next sumW
  cases e : f x.st with
  | fin => simp [pre]
  | fork ts =>
    simp only [List.nil_append]
    rw [pre_flat, List.map_map, List.map_map]
    congr 1
    refine List.map_congr_left fun t _ => ?_
    show pre x.ch ((ways f m t.1).map fun w => (t.2 :: w.1, w.2)) = pre (x.ch ++ [t.2]) (ways f m t.1)
    rw [← pre_pre]
    rfl
  | pass ts =>
    simp only [List.nil_append]
    rw [pre_flat, List.map_map, List.map_map]
    rfl
theorem lev_ok : ∀ (m n : Nat) (l : List (Nd α)), (∀ x ∈ l, Done f m x.st) → m ≤ n → (lev f n l).Perm (sumW f m l)
  | 0, n, l, hd, _ => by
    cases l with
    | nil =>
      have : ∀ n, lev f n [] = [] := by
        intro n
        induction n with
        | zero => rfl
        | succ n ih => show [] ++ lev f n [] = []; rw [ih]; rfl
      rw [this]
      exact .refl _
    | cons x l => exact (hd x List.mem_cons_self).elim
  | m + 1, n, l, hd, hn => by
    obtain ⟨k, rfl⟩ : ∃ k, n = k + 1 := ⟨n - 1, by omega⟩
    have ih := lev_ok m k (l.map (next f)).flatten (fun y hy => by
      obtain ⟨q, hq, hy⟩ := List.mem_flatten.mp hy
      obtain ⟨x, hx, rfl⟩ := List.mem_map.mp hq
      exact next_done f (hd x hx) y hy) (by omega)
    show ((l.map (isFin f)).flatten ++ lev f k (l.map (next f)).flatten).Perm _
    refine (List.Perm.append_left _ ih).trans ?_
    have hs : ∀ l : List (Nd α), ((l.map (isFin f)).flatten ++ sumW f m (l.map (next f)).flatten).Perm (sumW f (m + 1) l) := by
      intro l
      induction l with
      | nil => exact .refl _
      | cons x l ihl =>
        have e1 : sumW f (m + 1) (x :: l) = (isFin f x ++ sumW f m (next f x)) ++ sumW f (m + 1) l := by
          show pre x.ch (ways f (m + 1) x.st) ++ sumW f (m + 1) l = _
          rw [one_sum]
        have e2 : sumW f m ((x :: l).map (next f)).flatten = sumW f m (next f x) ++ sumW f m (l.map (next f)).flatten := by
          unfold sumW
          rw [List.map_cons, List.flatten_cons, List.map_append, List.flatten_append]
        rw [e1, e2, List.map_cons, List.flatten_cons]
        refine List.Perm.trans ?_ (List.Perm.append_left _ ihl)
        generalize isFin f x = A
        generalize (l.map (isFin f)).flatten = B
        generalize sumW f m (next f x) = C
        generalize sumW f m (l.map (next f)).flatten = D
        rw [List.append_assoc, List.append_assoc]
        refine List.Perm.append_left A ?_
        rw [← List.append_assoc, ← List.append_assoc]
        exact List.Perm.append_right D List.perm_append_comm
    exact hs l
/-! order -/
def lexL : List Nat → List Nat → Prop
  | a :: r, b :: q => a < b ∨ (a = b ∧ lexL r q)
  | _, _ => False
theorem lexL_cons {a : Nat} {r q : List Nat} (h : lexL r q) : lexL (a :: r) (a :: q) := .inr ⟨rfl, h⟩
theorem ways_sorted (hp : ∀ a ts, f a = .pass ts → ts.length ≤ 1) : ∀ (n : Nat) (a : α), (ways f n a).Pairwise fun x y => lexL x.1 y.1
  | 0, a => .nil
  | n + 1, a => by
    rw [ways]
    cases e : f a with
    | fin => exact List.pairwise_singleton _ _
    | fork ts =>
      have hz : ∀ (ts : List α) (i : Nat), (((ts.zipIdx i).map fun t => (ways f n t.1).map fun w => (t.2 :: w.1, w.2)).flatten).Pairwise (fun x y => lexL x.1 y.1) ∧ ∀ w ∈ ((ts.zipIdx i).map fun t => (ways f n t.1).map fun w => ((t.2 :: w.1, w.2) : List Nat × α)).flatten, ∃ k r, w.1 = k :: r ∧ i ≤ k := by
        intro ts
        induction ts with
        | nil => intro i; exact ⟨.nil, by simp⟩
        | cons t ts ih =>
          intro i
          obtain ⟨h1, h2⟩ := ih (i + 1)
          rw [List.zipIdx_cons, List.map_cons, List.flatten_cons]
          refine ⟨List.pairwise_append.mpr ⟨?_, h1, ?_⟩, ?_⟩
          · rw [List.pairwise_map]
            exact (ways_sorted hp n t).imp fun h => lexL_cons h
          · intro x hx y hy
            obtain ⟨w, _, rfl⟩ := List.mem_map.mp hx
            obtain ⟨k, r, e, hk⟩ := h2 y hy
            rw [e]
            exact .inl (by show i < k; omega)
          · intro w hw
            rcases List.mem_append.mp hw with hw | hw
            · obtain ⟨v, _, rfl⟩ := List.mem_map.mp hw
              exact ⟨i, v.1, rfl, Nat.le_refl _⟩
            · obtain ⟨k, r, e, hk⟩ := h2 w hw
              exact ⟨k, r, e, by omega⟩
      exact (hz ts 0).1
    | pass ts =>
      have := hp a ts e
      match ts, this with
      | [], _ => exact .nil
      | [t], _ =>
        simp only [List.map_cons, List.map_nil, List.flatten_cons, List.flatten_nil, List.append_nil]
        exact ways_sorted hp n t
      | _ :: _ :: _, h => simp at h
end NW

/-! N3: steps, typed; every settling ends soon. -/
namespace NW
open PySem
inductive Up where
  | up (c : Nat) (m : Int)
  | down (c : Nat)
  | add (c : Nat) (m : Int)
  | less (c : Nat) (m : Int)
  | roll (c : Nat) (b m : Int)
  | turn (c : Nat) (m : Int)
  | seen (c : Nat)
inductive Sp where
  | cell (v : Int) (lb : Str) (us : List Up)
  | any (lb : Str) (us : List Up)
  | keep (c : Nat) (lb : Str) (us : List Up)
  | tell (c : Nat) (k : Int) (lb : Str) (us : List Up)
  | fork (ts : List Nat)
  | jump (t : Nat)
  | round (c t : Nat)
  | check (c : Nat) (v : Int)
  | within (c : Nat) (lo hi : Int)
  | put (c : Nat) (v : Int)
  | bump (c : Nat) (b m : Int)
  | never
  | fin
def Sp.stops : Sp → Bool
  | .cell .. => true
  | .any .. => true
  | .keep .. => true
  | .tell .. => true
  | .fin => true
  | _ => false
/-- where, and the contents -/
abbrev Pl := Nat × List Int
def setAt (h : List Int) (c : Nat) (v : Int) : List Int := h.take c ++ [v] ++ h.drop (c + 1)
def beh (ss : List Sp) (x : Pl) : Bh Pl := match ss[x.1]? with
  | some (.fork ts) => .fork (ts.map fun t => (t, x.2))
  | some (.jump t) => .pass [(t, x.2)]
  | some (.round c t) => .pass [if x.2.getD c 0 = 0 then (t, x.2) else (x.1 + 1, x.2)]
  | some (.check c v) => .pass (if x.2.getD c 0 = v then [(x.1 + 1, x.2)] else [])
  | some (.within c lo hi) => .pass (if lo ≤ x.2.getD c 0 ∧ x.2.getD c 0 ≤ hi then [(x.1 + 1, x.2)] else [])
  | some (.put c v) => .pass [(x.1 + 1, setAt x.2 c v)]
  | some (.bump c b m) => .pass (if 0 ≤ x.2.getD c 0 + b ∧ x.2.getD c 0 + b ≤ m then [(x.1 + 1, setAt x.2 c (x.2.getD c 0 + b))] else [])
  | some .never => .pass []
  | _ => .fin
theorem beh_one (ss : List Sp) (a : Pl) (ts : List Pl) (h : beh ss a = .pass ts) : ts.length ≤ 1 := by
  unfold beh at h
  split at h <;> cases h <;> (try split) <;> simp
/-- a stop, or a bump and a stop: at most two nodes -/
def Short (ss : List Sp) (q : Nat) : Prop := (∃ s, ss[q]? = some s ∧ s.stops = true) ∨ (∃ c b m s, ss[q]? = some (.bump c b m) ∧ ss[q + 1]? = some s ∧ s.stops = true)
def Turn (ss : List Sp) (s p : Nat) : Prop := ss[s]? = some (.fork [p + 1, s + 1]) ∧ Short ss (s + 1)
def Back (ss : List Sp) (p s : Nat) : Prop := p + 1 < ss.length ∧ (Turn ss s p ∨ ∃ c, ss[s]? = some (.round c (p + 1)) ∧ Short ss (s + 1))
def Fwd (ss : List Sp) (q : Nat) : Sp → Prop
  | .fork ts => ∀ t ∈ ts, q < t ∧ t < ss.length
  | .jump t => (q < t ∧ t < ss.length) ∨ Back ss q t
  | .round _ t => (q < t ∧ t < ss.length) ∧ q + 1 < ss.length
  | .check .. => q + 1 < ss.length
  | .within .. => q + 1 < ss.length
  | .put .. => q + 1 < ss.length
  | .bump .. => q + 1 < ss.length
  | _ => True
def Row (ss : List Sp) : Prop := ∀ q s, ss[q]? = some s → Fwd ss q s
theorem done_fin {ss : List Sp} {x : Pl} (h : beh ss x = .fin) (n : Nat) : Done (beh ss) (n + 1) x := by
  unfold Done; rw [h]; trivial
theorem Done.le {α : Type} {f : α → Bh α} {n m : Nat} {a : α} (h : Done f n a) (hm : n ≤ m) : Done f m a := by
  obtain ⟨k, rfl⟩ : ∃ k, m = n + k := ⟨m - n, by omega⟩
  clear hm
  induction k with
  | zero => exact h
  | succ k ih => exact Done.up f ih
theorem stop_fin {ss : List Sp} {q : Nat} {s : Sp} (h : ss[q]? = some s) (hs : s.stops = true) (g : List Int) : beh ss (q, g) = .fin := by
  unfold beh
  simp only [h]
  cases s <;> simp [Sp.stops] at hs ⊢
theorem short_done {ss : List Sp} {q : Nat} (h : Short ss q) (g : List Int) : Done (beh ss) 2 (q, g) := by
  rcases h with ⟨s, h1, h2⟩ | ⟨c, b, m, s, h1, h2, h3⟩
  · exact done_fin (stop_fin h1 h2 g) 1
  · unfold Done
    have : beh ss (q, g) = .pass (if 0 ≤ g.getD c 0 + b ∧ g.getD c 0 + b ≤ m then [(q + 1, setAt g c (g.getD c 0 + b))] else []) := by
      unfold beh; simp only [h1]
    rw [this]
    intro t ht
    split at ht
    · rw [List.mem_singleton.mp ht]
      exact done_fin (stop_fin h2 h3 _) 0
    · simp at ht
theorem short_size {ss : List Sp} {q : Nat} (h : Short ss q) (g : List Int) (m : Nat) : size (beh ss) m (q, g) ≤ 2 := by
  have one : ∀ (q : Nat) (s : Sp) (g : List Int) (m : Nat), ss[q]? = some s → s.stops = true → size (beh ss) m (q, g) ≤ 1 := by
    intro q s g m h1 h2
    cases m with
    | zero => simp [size]
    | succ m => rw [size, stop_fin h1 h2 g]; exact Nat.le_refl _
  rcases h with ⟨s, h1, h2⟩ | ⟨c, b, m', s, h1, h2, h3⟩
  · have := one q s g m h1 h2; omega
  · cases m with
    | zero => simp [size]
    | succ m =>
      have : beh ss (q, g) = .pass (if 0 ≤ g.getD c 0 + b ∧ g.getD c 0 + b ≤ m' then [(q + 1, setAt g c (g.getD c 0 + b))] else []) := by
        unfold beh; simp only [h1]
      rw [size, this]
      simp only
      split
      · have := one (q + 1) s (setAt g c (g.getD c 0 + b)) m h2 h3
        simp only [List.map_cons, List.map_nil, List.sum_cons, List.sum_nil]
        omega
      · simp
/-- behind a place: later ones, or the jump back -/
theorem beh_fwd {ss : List Sp} (hr : Row ss) {q : Nat} {g : List Int} : (∃ p, ss[q]? = some (.jump p) ∧ Back ss q p ∧ beh ss (q, g) = .pass [(p, g)]) ∨
    (match beh ss (q, g) with | .fin => True | .fork ts => ∀ t ∈ ts, q < t.1 ∧ t.1 < ss.length | .pass ts => ∀ t ∈ ts, q < t.1 ∧ t.1 < ss.length) := by
  unfold beh
  cases e : ss[q]? with
  | none => exact .inr trivial
  | some s =>
    have h := hr q s e
    cases s with
    | jump t =>
      rcases h with h | h
      · exact .inr fun x hx => by rw [List.mem_singleton.mp hx]; exact h
      · exact .inl ⟨t, rfl, h, rfl⟩
    | fork ts =>
      refine .inr fun x hx => ?_
      obtain ⟨t, ht, rfl⟩ := List.mem_map.mp hx
      exact h t ht
    | round c t =>
      refine .inr fun x hx => ?_
      rw [List.mem_singleton.mp hx]
      show q < (if g.getD c 0 = 0 then (t, g) else (q + 1, g)).1 ∧ _
      split
      · exact h.1
      · exact ⟨Nat.lt_succ_self _, h.2⟩
    | check c v =>
      refine .inr fun x hx => ?_
      have hx : x ∈ (if g.getD c 0 = v then [(q + 1, g)] else []) := hx
      split at hx
      · rw [List.mem_singleton.mp hx]; exact ⟨Nat.lt_succ_self _, h⟩
      · simp at hx
    | within c lo hi =>
      refine .inr fun x hx => ?_
      have hx : x ∈ (if lo ≤ g.getD c 0 ∧ g.getD c 0 ≤ hi then [(q + 1, g)] else []) := hx
      split at hx
      · rw [List.mem_singleton.mp hx]; exact ⟨Nat.lt_succ_self _, h⟩
      · simp at hx
    | put c v =>
      refine .inr fun x hx => ?_
      have hx : x ∈ [(q + 1, setAt g c v)] := hx
      rw [List.mem_singleton.mp hx]; exact ⟨Nat.lt_succ_self _, h⟩
    | bump c b m =>
      refine .inr fun x hx => ?_
      have hx : x ∈ (if 0 ≤ g.getD c 0 + b ∧ g.getD c 0 + b ≤ m then [(q + 1, setAt g c (g.getD c 0 + b))] else []) := hx
      split at hx
      · rw [List.mem_singleton.mp hx]; exact ⟨Nat.lt_succ_self _, h⟩
      · simp at hx
    | never => exact .inr fun x hx => by simp at hx
    | _ => exact .inr trivial
theorem row_done {ss : List Sp} (hr : Row ss) : ∀ (k q : Nat) (g : List Int), ss.length - q ≤ k → q < ss.length → Done (beh ss) (2 * (ss.length - q)) (q, g) := by
  intro k
  induction k with
  | zero => intro q g h1 h2; omega
  | succ k ih =>
    intro q g h1 h2
    obtain ⟨m, em⟩ : ∃ m, 2 * (ss.length - q) = m + 2 := ⟨2 * (ss.length - q) - 2, by omega⟩
    rw [em]
    rcases beh_fwd hr (q := q) (g := g) with ⟨p, hj, ⟨hlt, hb⟩, e⟩ | h
    · have hm : 2 ≤ m := by omega
      have hnext : Done (beh ss) m (q + 1, g) := (ih (q + 1) g (by omega) hlt).le (by omega)
      have hs : Done (beh ss) (m + 1) (p, g) := by
        unfold Done
        rcases hb with ⟨ht, hsh⟩ | ⟨c, ht, hsh⟩
        · have : beh ss (p, g) = .fork [(q + 1, g), (p + 1, g)] := by unfold beh; simp only [ht]; rfl
          rw [this]
          intro t htm
          simp only [List.mem_cons, List.not_mem_nil, or_false] at htm
          rcases htm with rfl | rfl
          · exact hnext
          · exact (short_done hsh g).le hm
        · have : beh ss (p, g) = .pass [if g.getD c 0 = 0 then (q + 1, g) else (p + 1, g)] := by unfold beh; simp only [ht]
          rw [this]
          intro t htm
          rw [List.mem_singleton.mp htm]
          split
          · exact hnext
          · exact (short_done hsh g).le hm
      unfold Done
      rw [e]
      intro t ht
      rw [List.mem_singleton.mp ht]
      exact hs
    · unfold Done
      cases e : beh ss (q, g) with
      | fin => trivial
      | fork ts => rw [e] at h; exact fun t ht => (ih t.1 t.2 (by have := h t ht; omega) (h t ht).2).le (by have := h t ht; omega)
      | pass ts => rw [e] at h; exact fun t ht => (ih t.1 t.2 (by have := h t ht; omega) (h t ht).2).le (by have := h t ht; omega)
end NW

/-! N4: how many nodes are met. -/
namespace NW
open PySem
/-- so many forks are left, those of turns not counted -/
structure Wt (ss : List Sp) (w : Nat → Nat) : Prop where
  anti : ∀ q q', q ≤ q' → w q' ≤ w q
  fork : ∀ q ts, ss[q]? = some (.fork ts) → (∃ e, ts = [e, q + 1] ∧ Short ss (q + 1)) ∨ (ts.length ≤ 3 ∧ w (q + 1) < w q)
def bd (w : Nat → Nat) (n q : Nat) : Nat := 3 ^ w q * (4 * (n - q))
theorem pow_one (k : Nat) : 1 ≤ 3 ^ k := Nat.one_le_pow k 3 (by omega)
theorem bd_step {w : Nat → Nat} (ha : ∀ q q', q ≤ q' → w q' ≤ w q) {n q t : Nat} (h : q < t) (ht : t < n) : bd w n t + 4 ≤ bd w n q := by
  unfold bd
  have h1 : 3 ^ w t ≤ 3 ^ w q := Nat.pow_le_pow_right (by omega) (ha q t (by omega))
  have h2 : 3 ^ w t * (4 * (n - t)) ≤ 3 ^ w q * (4 * (n - t)) := Nat.mul_le_mul_right _ h1
  have h3 : 3 ^ w q * (4 * (n - q)) = 3 ^ w q * (4 * (n - t)) + 3 ^ w q * (4 * (t - q)) := by
    rw [← Nat.mul_add]
    congr 1; omega
  have h4 : 1 * 4 ≤ 3 ^ w q * (4 * (t - q)) := Nat.mul_le_mul (pow_one _) (by omega)
  omega
theorem bd_three {w : Nat → Nat} (ha : ∀ q q', q ≤ q' → w q' ≤ w q) {n q t : Nat} (h : q < t) (ht : t < n) (hw : w (q + 1) < w q) : 3 * bd w n t + 4 ≤ bd w n q := by
  unfold bd
  have h0 : w t + 1 ≤ w q := by have := ha (q + 1) t (by omega); omega
  have h1 : 3 ^ (w t + 1) ≤ 3 ^ w q := Nat.pow_le_pow_right (by omega) h0
  rw [Nat.pow_succ] at h1
  have h2 : 3 ^ w t * 3 * (4 * (n - t)) ≤ 3 ^ w q * (4 * (n - t)) := Nat.mul_le_mul_right _ h1
  have e2 : 3 ^ w t * 3 * (4 * (n - t)) = 3 * (3 ^ w t * (4 * (n - t))) := by
    rw [Nat.mul_comm (3 ^ w t) 3, Nat.mul_assoc]
  have h3 : 3 ^ w q * (4 * (n - q)) = 3 ^ w q * (4 * (n - t)) + 3 ^ w q * (4 * (t - q)) := by
    rw [← Nat.mul_add]
    congr 1; omega
  have h4 : 1 * 4 ≤ 3 ^ w q * (4 * (t - q)) := Nat.mul_le_mul (pow_one _) (by omega)
  omega
theorem sum_three (l : List Nat) (B : Nat) (h : ∀ x ∈ l, 3 * x ≤ B) (hl : l.length ≤ 3) : l.sum ≤ B := by
  match l, hl with
  | [], _ => simp
  | [a], _ => have := h a (by simp); simp; omega
  | [a, b], _ => have := h a (by simp); have := h b (by simp); simp; omega
  | [a, b, c], _ => have := h a (by simp); have := h b (by simp); have := h c (by simp); simp; omega
  | _ :: _ :: _ :: _ :: _, hl => simp at hl
theorem row_size {ss : List Sp} (hr : Row ss) {w : Nat → Nat} (hw : Wt ss w) : ∀ (k q : Nat) (g : List Int) (m : Nat), ss.length - q ≤ k → q < ss.length → size (beh ss) m (q, g) ≤ bd w ss.length q := by
  intro k
  induction k with
  | zero => intro q g m h1 h2; omega
  | succ k ih =>
    intro q g m h1 h2
    have h4 : 4 ≤ bd w ss.length q := by
      unfold bd
      have : 1 * 4 ≤ 3 ^ w q * (4 * (ss.length - q)) := Nat.mul_le_mul (pow_one _) (by omega)
      omega
    cases m with
    | zero => simp [size]
    | succ m =>
      rcases beh_fwd hr (q := q) (g := g) with ⟨p, hj, ⟨hlt, hb⟩, e⟩ | h
      · rw [size, e]
        simp only [List.map_cons, List.map_nil, List.sum_cons, List.sum_nil]
        have hb1 := bd_step hw.anti (t := q + 1) (Nat.lt_succ_self q) hlt
        cases m with
        | zero => simp [size]; omega
        | succ m =>
          have hn := ih (q + 1) g m (by omega) hlt
          rcases hb with ⟨ht, hsh⟩ | ⟨c, ht, hsh⟩
          · have e2 : beh ss (p, g) = .fork [(q + 1, g), (p + 1, g)] := by unfold beh; simp only [ht]; rfl
            rw [size, e2]
            have := short_size hsh g m
            simp only [List.map_cons, List.map_nil, List.sum_cons, List.sum_nil]
            omega
          · have e2 : beh ss (p, g) = .pass [if g.getD c 0 = 0 then (q + 1, g) else (p + 1, g)] := by unfold beh; simp only [ht]
            rw [size, e2]
            have := short_size hsh g m
            simp only [List.map_cons, List.map_nil, List.sum_cons, List.sum_nil]
            split <;> omega
      · rw [size]
        cases e : beh ss (q, g) with
        | fin => simp only; omega
        | pass ts =>
          rw [e] at h
          simp only
          have hl := beh_one ss _ _ e
          match ts, hl, h with
          | [], _, _ => simp; omega
          | [t], _, h =>
            have ht := h t (by simp)
            have h5 : size (beh ss) m t ≤ bd w ss.length t.1 := ih t.1 t.2 m (by omega) ht.2
            have h6 := bd_step hw.anti ht.1 ht.2
            simp only [List.map_cons, List.map_nil, List.sum_cons, List.sum_nil]
            omega
          | _ :: _ :: _, hl, _ => simp at hl
        | fork ts =>
          rw [e] at h
          simp only
          have hf : ∃ tl, ss[q]? = some (.fork tl) ∧ ts = tl.map fun t => (t, g) := by
            unfold beh at e
            split at e <;> cases e
            rename_i tl he
            exact ⟨tl, he, rfl⟩
          obtain ⟨tl, he, rfl⟩ := hf
          rcases hw.fork q tl he with ⟨x, rfl, hsh⟩ | ⟨hl, hlt⟩
          · have hx := h (x, g) (by simp)
            have h5 := ih x g m (by have := hx.1; omega) hx.2
            have h6 := bd_step hw.anti (t := x) hx.1 hx.2
            have h7 := short_size hsh g m
            simp only [List.map_cons, List.map_nil, List.sum_cons, List.sum_nil]
            omega
          · have : ((tl.map fun t => (t, g)).map fun t => size (beh ss) m t).sum ≤ bd w ss.length q - 4 := by
              refine sum_three _ _ (fun y hy => ?_) (by simpa using hl)
              obtain ⟨t, ht, rfl⟩ := List.mem_map.mp hy
              have ht2 := h t ht
              have h5 := ih t.1 t.2 m (by have := ht2.1; omega) ht2.2
              have h6 := bd_three hw.anti ht2.1 ht2.2 hlt
              have e3 : (t.1, t.2) = t := rfl
              rw [e3] at h5
              omega
            omega
theorem bd_most {ss : List Sp} {w : Nat → Nat} (hw : Wt ss w) (h0 : w 0 ≤ 3) (hl : ss.length ≤ 16) (q : Nat) : bd w ss.length q ≤ 1728 := by
  unfold bd
  have h1 : 3 ^ w q ≤ 3 ^ 3 := Nat.pow_le_pow_right (by omega) (by have := hw.anti 0 q (by omega); omega)
  have : 3 ^ w q * (4 * (ss.length - q)) ≤ 3 ^ 3 * (4 * 16) := Nat.mul_le_mul h1 (by omega)
  omega
end NW

/-! N5: steps as values; ups; passes. -/
namespace K28
open PySem PySem.Spec L2 PVL NW
def upV : Up → PV
  | .up c m => .tup [.str "up", .int c, .int m]
  | .down c => .tup [.str "down", .int c]
  | .add c m => .tup [.str "add", .int c, .int m]
  | .less c m => .tup [.str "less", .int c, .int m]
  | .roll c b m => .tup [.str "roll", .int c, .int b, .int m]
  | .turn c m => .tup [.str "turn", .int c, .int m]
  | .seen c => .tup [.str "seen", .int c]
def upsV (us : List Up) : PV := .tup (us.map upV)
def natsV (ts : List Nat) : PV := .tup (ts.map fun t => .int (t : Nat))
def stV : NW.Sp → PV
  | .cell v lb us => .tup [.str "cell", .int v, .str lb, upsV us]
  | .any lb us => .tup [.str "any", .str lb, upsV us]
  | .keep c lb us => .tup [.str "keep", .int c, .str lb, upsV us]
  | .tell c k lb us => .tup [.str "tell", .int c, .int k, .str lb, upsV us]
  | .fork ts => .tup [.str "fork", natsV ts]
  | .jump t => .tup [.str "jump", .int t]
  | .round c t => .tup [.str "round", .int c, .int t]
  | .check c v => .tup [.str "check", .int c, .int v]
  | .within c lo hi => .tup [.str "within", .int c, .int lo, .int hi]
  | .put c v => .tup [.str "put", .int c, .int v]
  | .bump c b m => .tup [.str "bump", .int c, .int b, .int m]
  | .never => .tup [.str "never"]
  | .fin => .tup [.str "end"]
def heldV (h : List Int) : PV := .tup (h.map .int)
def Up.at : Up → Nat
  | .up c _ => c
  | .down c => c
  | .add c _ => c
  | .less c _ => c
  | .roll c _ _ => c
  | .turn c _ => c
  | .seen c => c
def lift (u : Up) (x cell : Int) : Option Int := match u with
  | .up _ m => if x + 1 > m then none else some (x + 1)
  | .down _ => if x = 0 then none else some (x - 1)
  | .add _ m => some ((x + cell) % m)
  | .less _ m => some ((x - cell) % m)
  | .roll _ b m => some ((x * b + cell) % m)
  | .turn _ m => some ((x + 1) % m)
  | .seen _ => some 1
def UpOk (many : Nat) : Up → Prop
  | .up c _ => c < many
  | .down c => c < many
  | .add c m => c < many ∧ 0 < m ∧ m < 100
  | .less c m => c < many ∧ 0 < m ∧ m < 100
  | .roll c b m => c < many ∧ 0 ≤ b ∧ b < 100 ∧ 0 < m ∧ m < 100
  | .turn c m => c < many ∧ 0 < m ∧ m < 100
  | .seen c => c < many
def optI : Option Int → PV
  | none => .non
  | some i => .int i
theorem ups_ne : ("down" : Str) ≠ "up" ∧ ("add" : Str) ≠ "up" ∧ ("less" : Str) ≠ "up" ∧ ("roll" : Str) ≠ "up" ∧ ("turn" : Str) ≠ "up" ∧ ("seen" : Str) ≠ "up" ∧ ("add" : Str) ≠ "down" ∧ ("less" : Str) ≠ "down" ∧ ("roll" : Str) ≠ "down" ∧ ("turn" : Str) ≠ "down" ∧ ("seen" : Str) ≠ "down" ∧
    ("less" : Str) ≠ "add" ∧ ("roll" : Str) ≠ "add" ∧ ("turn" : Str) ≠ "add" ∧ ("seen" : Str) ≠ "add" ∧ ("roll" : Str) ≠ "less" ∧ ("turn" : Str) ≠ "less" ∧ ("seen" : Str) ≠ "less" ∧ ("turn" : Str) ≠ "roll" ∧ ("seen" : Str) ≠ "roll" ∧ ("seen" : Str) ≠ "turn" := by decide +kernel
theorem mulSm {a b : Int} (h0 : 0 ≤ b) (h1 : b < 100) : pMul (.int a) (.int b) = some (.int (a * b)) := by
  show (if CMul a b then some (PV.int (a * b)) else none) = _
  rw [if_pos]
  refine .inr ⟨?_, ?_⟩
  · have : (-(2 ^ 64) : Int) < -10 := by decide
    omega
  · have : (100 : Int) < 2 ^ 64 := by decide
    omega
theorem modP {a b : Int} (h : 0 < b) : pMod (.int a) (.int b) = some (.int (a % b)) := by
  show (if 0 < b then some (PV.int (a % b)) else none) = _
  rw [if_pos h]
theorem raised_r {many : Nat} {u : Up} (hu : UpOk many u) (x cell : Int) : m_raised_by [upV u, .int x, .int cell] = .ok (optI (lift u x cell)) [some (upV u), some (.int x), some (.int cell)] := by
  have ne := ups_ne
  unfold m_raised_by
  rw [fnM_at rfl]
  cases u with
  | up c m =>
    by_cases h : m < x + 1
    · simp [b_m_raised_by, upV, lift, optI, h]
    · simp [b_m_raised_by, upV, lift, optI, h]
  | down c =>
    by_cases h : x = 0
    · simp [b_m_raised_by, upV, lift, optI, h, ne]
    · simp [b_m_raised_by, upV, lift, optI, h, ne]
  | add c m =>
    have e := modP (a := x + cell) hu.2.1
    simp [b_m_raised_by, upV, lift, optI, e, ne]
  | less c m =>
    have e := modP (a := x - cell) hu.2.1
    simp [b_m_raised_by, upV, lift, optI, e, ne]
  | roll c b m =>
    have e := modP (a := x * b + cell) hu.2.2.2.1
    have e2 := mulSm (a := x) hu.2.1 hu.2.2.1
    simp [b_m_raised_by, upV, lift, optI, e, e2, ne]
  | turn c m =>
    have e := modP (a := x + 1) hu.2.1
    simp [b_m_raised_by, upV, lift, optI, e, ne]
  | seen c => simp [b_m_raised_by, upV, lift, optI, ne]
def optL : Option Int → PV
  | none => .lst []
  | some i => .lst [.int i]
theorem lifted_r {many : Nat} {u : Up} (hu : UpOk many u) {x : Int} (h0 : 0 ≤ x) (cell : Int) : m__law_lifted [upV u, .int x, .int cell] = .ok (optL (lift u x cell)) [some (upV u), some (.int x), some (.int cell)] := by
  have ne := ups_ne
  have z1 : 1 ≤ sizeLine := le_size (by omega)
  unfold m__law_lifted
  rw [fnM_at rfl]
  cases u with
  | up c m =>
    by_cases h : x < m
    · have h2 : ¬ (m < x + 1) := by omega
      simp [b_m__law_lifted, upV, lift, optL, h, h2, z1]
    · have h2 : m < x + 1 := by omega
      simp [b_m__law_lifted, upV, lift, optL, h, h2, z1]
  | down c =>
    by_cases h : x = 0
    · simp [b_m__law_lifted, upV, lift, optL, h, ne, z1]
    · have h2 : 0 < x := by omega
      simp [b_m__law_lifted, upV, lift, optL, h, h2, ne, z1]
  | add c m =>
    have e := modP (a := x + cell) hu.2.1
    simp [b_m__law_lifted, upV, lift, optL, e, ne, z1]
  | less c m =>
    have e := modP (a := x - cell) hu.2.1
    simp [b_m__law_lifted, upV, lift, optL, e, ne, z1]
  | roll c b m =>
    have e := modP (a := x * b + cell) hu.2.2.2.1
    have e2 := mulSm (a := x) hu.2.1 hu.2.2.1
    simp [b_m__law_lifted, upV, lift, optL, e, e2, ne, z1]
  | turn c m =>
    have e := modP (a := x + 1) hu.2.1
    simp [b_m__law_lifted, upV, lift, optL, e, ne, z1]
  | seen c => simp [b_m__law_lifted, upV, lift, optL, ne, z1]
end K28

/-! N6: passes. -/
namespace K28
open PySem PySem.Spec L2 PVL NW
theorem held_at {h : List Int} {c : Nat} (hc : c < h.length) : pIx (heldV h) (.int (c : Int)) = some (.int (h.getD c 0)) := by
  show atI (h.map PV.int) (c : Int) = _
  rw [at_nat _ _ (by omega), Int.toNat_natCast, List.getElem?_map]
  rw [List.getElem?_eq_getElem hc, List.getD_eq_getElem?_getD, List.getElem?_eq_getElem hc]
  rfl
theorem held_imm (h : List Int) : (heldV h).imm = true := by
  unfold heldV
  rw [imm_tup]
  exact immL_map _ _ fun _ _ => rfl
theorem held_take (h : List Int) (c : Nat) : pSl (heldV h) none (some (c : Int)) = some (heldV (h.take c)) := by
  have hi : immL (h.map PV.int) = true := immL_map _ _ fun _ _ => rfl
  show (if immL (h.map PV.int) = true then some (PV.tup (pcut (h.map PV.int) none (some (c : Int)))) else none) = _
  rw [if_pos hi, pcut_map]
  unfold pcut
  rw [HT.sIx_none, HT.sIx_nat, List.drop_zero, Nat.sub_zero]
  have : h.take (min c h.length) = h.take c := by
    by_cases q : c ≤ h.length
    · rw [Nat.min_eq_left q]
    · rw [Nat.min_eq_right (by omega), List.take_length, List.take_of_length_le (by omega)]
  rw [this]
  rfl
theorem held_drop (h : List Int) (c : Nat) : pSl (heldV h) (some ((c : Int) + 1)) none = some (heldV (h.drop (c + 1))) := by
  have hi : immL (h.map PV.int) = true := immL_map _ _ fun _ _ => rfl
  have e : (c : Int) + 1 = ((c + 1 : Nat) : Int) := by omega
  rw [e]
  show (if immL (h.map PV.int) = true then some (PV.tup (pcut (h.map PV.int) (some ((c + 1 : Nat) : Int)) none)) else none) = _
  rw [if_pos hi, pcut_map]
  unfold pcut
  rw [HT.sIx_none, HT.sIx_nat]
  have : (h.drop (min (c + 1) h.length)).take (h.length - min (c + 1) h.length) = h.drop (c + 1) := by
    by_cases q : c + 1 ≤ h.length
    · rw [Nat.min_eq_left q, List.take_of_length_le (by rw [List.length_drop]; omega)]
    · rw [Nat.min_eq_right (by omega), List.drop_length, List.drop_of_length_le (by omega)]; simp
  rw [this]
  rfl
theorem held_add (a : List Int) (v : Int) (b : List Int) (hz : a.length + b.length ≤ 1000) : pAdd (heldV a) (.tup [.int v]) = some (heldV (a ++ [v])) ∧ pAdd (heldV (a ++ [v])) (heldV b) = some (heldV (a ++ [v] ++ b)) := by
  have ia : immL (a.map PV.int) = true := immL_map _ _ fun _ _ => rfl
  have ib : immL (b.map PV.int) = true := immL_map _ _ fun _ _ => rfl
  have iav : immL ((a ++ [v]).map PV.int) = true := immL_map _ _ fun _ _ => rfl
  constructor
  · show (if (a.map PV.int).length + 1 ≤ sizeLine ∧ immL (a.map PV.int) = true ∧ immL [PV.int v] = true then some (PV.tup (a.map PV.int ++ [.int v])) else none) = _
    rw [if_pos ⟨by rw [List.length_map]; exact le_size (by omega), ia, rfl⟩]
    simp [heldV]
  · show (if ((a ++ [v]).map PV.int).length + (b.map PV.int).length ≤ sizeLine ∧ immL ((a ++ [v]).map PV.int) = true ∧ immL (b.map PV.int) = true then some (PV.tup ((a ++ [v]).map PV.int ++ b.map PV.int)) else none) = _
    rw [if_pos ⟨by rw [List.length_map, List.length_map, List.length_append, List.length_singleton]; exact le_size (by omega), iav, ib⟩]
    simp [heldV]
theorem with_r (h : List Int) (c : Nat) (v : Int) (hl : h.length ≤ 100) : m_with_content [heldV h, .int c, .int v] = .ok (heldV (setAt h c v)) [some (heldV h), some (.int c), some (.int v)] := by
  have e1 := held_take h c
  have e2 := held_drop h c
  obtain ⟨e3, e4⟩ := held_add (h.take c) v (h.drop (c + 1)) (by rw [List.length_take, List.length_drop]; omega)
  have i0 := held_imm h
  have z1 : 1 ≤ sizeLine := le_size (by omega)
  unfold m_with_content
  rw [fnM_at rfl]
  unfold setAt
  generalize heldV h = H at *
  generalize heldV (h.take c) = A at *
  generalize heldV (h.drop (c + 1)) = B at *
  generalize heldV (h.take c ++ [v]) = AV at *
  simp [b_m_with_content, e1, e2, e3, e4, i0, z1]
/-- what a pass leads to -/
def pas (s : NW.Sp) (q : Nat) (h : List Int) : List NW.Pl := match s with
  | .jump t => [(t, h)]
  | .round c t => [if h.getD c 0 = 0 then (t, h) else (q + 1, h)]
  | .check c v => if h.getD c 0 = v then [(q + 1, h)] else []
  | .within c lo hi => if lo ≤ h.getD c 0 ∧ h.getD c 0 ≤ hi then [(q + 1, h)] else []
  | .put c v => [(q + 1, setAt h c v)]
  | .bump c b m => if 0 ≤ h.getD c 0 + b ∧ h.getD c 0 + b ≤ m then [(q + 1, setAt h c (h.getD c 0 + b))] else []
  | _ => []
def isPass : NW.Sp → Bool
  | .jump .. => true
  | .round .. => true
  | .check .. => true
  | .within .. => true
  | .put .. => true
  | .bump .. => true
  | .never => true
  | _ => false
theorem beh_pas {ss : List NW.Sp} {q : Nat} {s : NW.Sp} (h : ss[q]? = some s) (hp : isPass s = true) (g : List Int) : beh ss (q, g) = .pass (pas s q g) := by
  unfold beh
  simp only [h]
  cases s <;> first | rfl | (simp [isPass] at hp)
def CtOk (many : Nat) : NW.Sp → Prop
  | .round c _ => c < many
  | .check c _ => c < many
  | .within c _ _ => c < many
  | .put c _ => c < many
  | .bump c _ _ => c < many
  | _ => True
def plV (x : NW.Pl) : PV := .tup [.int (x.1 : Int), heldV x.2]
def passV : List NW.Pl → PV
  | [] => .non
  | x :: _ => plV x
theorem kind_ne : ("never" : Str) ≠ "jump" ∧ ("round" : Str) ≠ "jump" ∧ ("round" : Str) ≠ "never" ∧ ("check" : Str) ≠ "jump" ∧ ("check" : Str) ≠ "never" ∧ ("check" : Str) ≠ "round" ∧ ("within" : Str) ≠ "jump" ∧ ("within" : Str) ≠ "never" ∧ ("within" : Str) ≠ "round" ∧ ("within" : Str) ≠ "check" ∧
    ("put" : Str) ≠ "jump" ∧ ("put" : Str) ≠ "never" ∧ ("put" : Str) ≠ "round" ∧ ("put" : Str) ≠ "check" ∧ ("put" : Str) ≠ "within" ∧ ("bump" : Str) ≠ "jump" ∧ ("bump" : Str) ≠ "never" ∧ ("bump" : Str) ≠ "round" ∧ ("bump" : Str) ≠ "check" ∧ ("bump" : Str) ≠ "within" ∧ ("bump" : Str) ≠ "put" ∧
    ("jump" : Str) ≠ "never" ∧ ("check" : Str) ≠ "within" ∧ ("check" : Str) ≠ "put" ∧ ("check" : Str) ≠ "bump" ∧ ("within" : Str) ≠ "put" ∧ ("within" : Str) ≠ "bump" ∧ ("put" : Str) ≠ "bump" := by decide +kernel
theorem passed_r {s : NW.Sp} (hp : isPass s = true) {h : List Int} (hs : CtOk h.length s) (hl : h.length ≤ 100) (q : Nat) : m_passed [stV s, .int (q : Int), heldV h] = .ok (passV (pas s q h)) [some (stV s), some (.int (q : Int)), some (heldV h)] := by
  have ne := kind_ne
  have i0 := held_imm h
  have z2 : 2 ≤ sizeLine := le_size (by omega)
  have hq : (q : Int) + 1 = ((q + 1 : Nat) : Int) := by omega
  unfold m_passed
  rw [fnM_at rfl]
  cases s with
  | jump t =>
    generalize hH : heldV h = H at *
    simp [b_m_passed, stV, pas, passV, plV, hH, i0, z2]
  | never => simp [b_m_passed, stV, pas, passV, ne]
  | round c t =>
    have e := held_at (h := h) hs
    by_cases hz : h.getD c 0 = 0
    · rw [hz] at e
      generalize hH : heldV h = H at *
      simp [b_m_passed, stV, pas, passV, plV, hH, i0, z2, e, ne, hz, -List.getD_eq_getElem?_getD]
    · generalize hg : h.getD c 0 = x at *
      generalize hH : heldV h = H at *
      simp [b_m_passed, stV, pas, passV, plV, hH, i0, z2, e, ne, hg, hz, -List.getD_eq_getElem?_getD]
  | check c v =>
    have e := held_at (h := h) hs
    generalize hg : h.getD c 0 = x at *
    generalize hH : heldV h = H at *
    by_cases hz : x = v
    · simp [b_m_passed, stV, pas, passV, plV, hH, i0, z2, e, ne, hg, hz, -List.getD_eq_getElem?_getD]
    · simp [b_m_passed, stV, pas, passV, plV, hH, i0, z2, e, ne, hg, hz, -List.getD_eq_getElem?_getD]
  | within c lo hi =>
    have e := held_at (h := h) hs
    generalize hg : h.getD c 0 = x at *
    generalize hH : heldV h = H at *
    by_cases h1 : lo ≤ x
    · by_cases h2 : x ≤ hi
      · simp [b_m_passed, stV, pas, passV, plV, hH, i0, z2, e, ne, hg, h1, h2, -List.getD_eq_getElem?_getD]
      · simp [b_m_passed, stV, pas, passV, plV, hH, i0, z2, e, ne, hg, h1, h2, -List.getD_eq_getElem?_getD]
    · simp [b_m_passed, stV, pas, passV, plV, hH, i0, z2, e, ne, hg, h1, -List.getD_eq_getElem?_getD]
  | put c v =>
    have e := held_at (h := h) hs
    have e2 := with_r h c v hl
    have i1 := held_imm (setAt h c v)
    generalize hg : h.getD c 0 = x at *
    generalize hH : heldV h = H at *
    generalize hS : heldV (setAt h c v) = HS at *
    simp [b_m_passed, stV, pas, passV, plV, hH, hS, i0, i1, z2, e, e2, ne]
  | bump c b m =>
    have e := held_at (h := h) hs
    generalize hg : h.getD c 0 = x at *
    have e2 := with_r h c (x + b) hl
    have i1 := held_imm (setAt h c (x + b))
    generalize hH : heldV h = H at *
    by_cases h1 : 0 ≤ x + b
    · by_cases h2 : x + b ≤ m
      · simp [b_m_passed, stV, pas, passV, plV, hH, hg, i0, i1, z2, e, e2, ne, h1, h2, -List.getD_eq_getElem?_getD]
      · simp [b_m_passed, stV, pas, passV, plV, hH, hg, i0, i1, z2, e, e2, ne, h1, h2, -List.getD_eq_getElem?_getD]
    · simp [b_m_passed, stV, pas, passV, plV, hH, hg, i0, i1, z2, e, e2, ne, h1, -List.getD_eq_getElem?_getD]
  | _ => simp [isPass] at hp
end K28

/-! N7: the law's passes. -/
namespace K28
open PySem PySem.Spec L2 PVL NW
theorem ix2_0 (a b : PV) : pIx (.tup [a, b]) (.int 0) = some a := by simp
theorem rep1 (x : PV) : (List.replicate (1 : Int).toNat [x]).flatten = [x] := rfl
theorem rep0 (x : PV) : (List.replicate (0 : Int).toNat [x]).flatten = [] := rfl
theorem onward_r {s : NW.Sp} (hp : isPass s = true) {h : List Int} (hs : CtOk h.length s) (hl : h.length ≤ 100) (q : Nat) : m__law_onward [stV s, .int (q : Int), heldV h] = .ok (.lst ((pas s q h).map plV)) [some (stV s), some (.int (q : Int)), some (heldV h)] := by
  have ne := kind_ne
  have i0 := held_imm h
  have z2 : 2 ≤ sizeLine := le_size (by omega)
  have z1 : 1 ≤ sizeLine := le_size (by omega)
  have hq : (q : Int) + 1 = ((q + 1 : Nat) : Int) := by omega
  unfold m__law_onward
  rw [fnM_at rfl]
  cases s with
  | jump t =>
    generalize hH : heldV h = H at *
    simp [b_m__law_onward, stV, pas, plV, hH, i0, z2, z1, ne]
  | never => simp [b_m__law_onward, stV, pas, ne]
  | round c t =>
    have e := held_at (h := h) hs
    by_cases hz : h.getD c 0 = 0
    · rw [hz] at e
      generalize hH : heldV h = H at *
      simp [b_m__law_onward, stV, pas, plV, hH, i0, z2, z1, e, ne, hz, -List.getD_eq_getElem?_getD]
    · generalize hg : h.getD c 0 = x at *
      generalize hH : heldV h = H at *
      simp [b_m__law_onward, stV, pas, plV, hH, i0, z2, z1, e, ne, hg, hz, -List.getD_eq_getElem?_getD]
  | check c v =>
    have e := held_at (h := h) hs
    generalize hg : h.getD c 0 = x at *
    generalize hH : heldV h = H at *
    by_cases hz : x = v
    · simp [b_m__law_onward, stV, pas, plV, hH, i0, z2, z1, e, ne, hg, hz, rep1, -List.getD_eq_getElem?_getD]
    · simp [b_m__law_onward, stV, pas, plV, hH, i0, z2, z1, e, ne, hg, hz, rep0, -List.getD_eq_getElem?_getD]
  | within c lo hi =>
    have e := held_at (h := h) hs
    generalize hg : h.getD c 0 = x at *
    generalize hH : heldV h = H at *
    by_cases h1 : lo ≤ x
    · by_cases h2 : x ≤ hi
      · simp [b_m__law_onward, stV, pas, plV, hH, i0, z2, z1, e, ne, hg, h1, h2, rep1, -List.getD_eq_getElem?_getD]
      · simp [b_m__law_onward, stV, pas, plV, hH, i0, z2, z1, e, ne, hg, h1, h2, rep0, -List.getD_eq_getElem?_getD]
    · simp [b_m__law_onward, stV, pas, plV, hH, i0, z2, z1, e, ne, hg, h1, rep0, -List.getD_eq_getElem?_getD]
  | put c v =>
    have e := held_at (h := h) hs
    have e1 := held_take h c
    have e2 := held_drop h c
    obtain ⟨e3, e4⟩ := held_add (h.take c) v (h.drop (c + 1)) (by rw [List.length_take, List.length_drop]; omega)
    have i1 := held_imm (setAt h c v)
    have es : heldV (h.take c ++ [v] ++ h.drop (c + 1)) = heldV (setAt h c v) := rfl
    rw [es] at e4
    generalize hg : h.getD c 0 = x at *
    generalize hH : heldV h = H at *
    generalize hS : heldV (setAt h c v) = HS at *
    generalize heldV (h.take c) = A at *
    generalize heldV (h.drop (c + 1)) = B at *
    generalize heldV (h.take c ++ [v]) = AV at *
    simp [b_m__law_onward, stV, pas, plV, hH, hS, i0, i1, z2, z1, e, e1, e2, e3, e4, ne]
  | bump c b m =>
    have e := held_at (h := h) hs
    generalize hg : h.getD c 0 = x at *
    have e1 := held_take h c
    have e2 := held_drop h c
    obtain ⟨e3, e4⟩ := held_add (h.take c) (x + b) (h.drop (c + 1)) (by rw [List.length_take, List.length_drop]; omega)
    have i1 := held_imm (setAt h c (x + b))
    have es : heldV (h.take c ++ [x + b] ++ h.drop (c + 1)) = heldV (setAt h c (x + b)) := rfl
    rw [es] at e4
    generalize hH : heldV h = H at *
    by_cases h1 : 0 ≤ x + b
    · have h1' : ¬ (x + b < 0) := by omega
      by_cases h2 : x + b ≤ m
      · have h2' : ¬ (m < x + b) := by omega
        generalize hS : heldV (setAt h c (x + b)) = HS at *
        generalize heldV (h.take c) = A at *
        generalize heldV (h.drop (c + 1)) = B at *
        generalize heldV (h.take c ++ [x + b]) = AV at *
        simp [b_m__law_onward, stV, pas, plV, hH, hS, hg, i0, i1, z2, z1, e, e1, e2, e3, e4, ne, h1, h1', h2, h2', -List.getD_eq_getElem?_getD]
      · have h2' : m < x + b := by omega
        simp [b_m__law_onward, stV, pas, plV, hH, hg, i0, e, ne, h1, h1', h2, h2', -List.getD_eq_getElem?_getD]
    · have h1' : x + b < 0 := by omega
      simp [b_m__law_onward, stV, pas, plV, hH, hg, i0, e, ne, h1, h1', -List.getD_eq_getElem?_getD]
  | _ => simp [isPass] at hp
end K28

/-! N8: settling: one turn. -/
namespace K28
open PySem PySem.Spec L2 PVL NW
def stepsV (ss : List NW.Sp) : PV := .tup (ss.map stV)
def chV (ch : List Nat) : PV := .tup (ch.map fun k => .int (k : Nat))
def ndV (x : NW.Nd NW.Pl) : PV := .tup [.int (x.st.1 : Int), heldV x.st.2, chV x.ch]
def fdV (w : List Nat × NW.Pl) : PV := .tup [chV w.1, plV w.2]
theorem stV_imm (s : NW.Sp) : (stV s).imm = true := by
  have hu : ∀ us : List Up, (upsV us).imm = true := by
    intro us
    unfold upsV
    rw [imm_tup]
    refine immL_map _ _ fun u _ => ?_
    cases u <;> simp [upV, immL]
  have hn : ∀ ts : List Nat, (natsV ts).imm = true := by
    intro ts
    unfold natsV
    rw [imm_tup]
    exact immL_map _ _ fun _ _ => rfl
  cases s <;> simp [stV, immL, hu, hn]
theorem steps_imm (ss : List NW.Sp) : (stepsV ss).imm = true := by
  unfold stepsV
  rw [imm_tup]
  exact immL_map _ _ fun s _ => stV_imm s
theorem ch_imm (ch : List Nat) : (chV ch).imm = true := by
  unfold chV
  rw [imm_tup]
  exact immL_map _ _ fun _ _ => rfl
theorem step_at {ss : List NW.Sp} {q : Nat} {s : NW.Sp} (h : ss[q]? = some s) : pIx (stepsV ss) (.int (q : Int)) = some (stV s) := by
  show atI (ss.map stV) (q : Int) = _
  rw [at_nat _ _ (by omega), Int.toNat_natCast, List.getElem?_map, h]
  rfl
def kindS : NW.Sp → Str
  | .cell .. => "cell"
  | .any .. => "any"
  | .keep .. => "keep"
  | .tell .. => "tell"
  | .fork .. => "fork"
  | .jump .. => "jump"
  | .round .. => "round"
  | .check .. => "check"
  | .within .. => "within"
  | .put .. => "put"
  | .bump .. => "bump"
  | .never => "never"
  | .fin => "end"
theorem kind_at (s : NW.Sp) : pIx (stV s) (.int 0) = some (.str (kindS s)) := by
  cases s <;> simp [stV, kindS]
def takL : List Str := ["cell", "any", "keep", "tell"]
theorem in_strs2 (z : Str) (ys : List Str) : pIn (.str z) (.tup (ys.map .str)) = some (.bl (decide (z ∈ ys))) := by
  have hf : (ys.map PV.str).all flatP = true := by
    rw [List.all_eq_true]
    intro x hx
    obtain ⟨y, _, rfl⟩ := List.mem_map.mp hx
    rfl
  have : ((ys.map PV.str).any fun y => eqFl y (.str z)) = decide (z ∈ ys) := by
    rw [Bool.eq_iff_iff, decide_eq_true_eq]
    simp only [List.any_map, List.any_eq_true, Function.comp_apply, eqFl]
    constructor
    · rintro ⟨y, hy, e⟩
      have := eq_of_beq e
      rw [← this]; exact hy
    · intro h
      exact ⟨z, h, by simp⟩
  unfold pIn inB
  simp only [hf, flatP, Bool.and_self, if_true, Option.map_some, this]
theorem in_tak (z : Str) : pIn (.str z) (.tup [.str "cell", .str "any", .str "keep", .str "tell"]) = some (.bl (decide (z ∈ takL))) := in_strs2 z takL
theorem kind_stops (s : NW.Sp) : s.stops = (decide (kindS s ∈ takL) || decide (kindS s = "end")) := by
  have q : ∀ z ∈ ([("fork" : Str), "jump", "round", "check", "within", "put", "bump", "never"] : List Str), (decide (z ∈ takL) || decide (z = "end")) = false := by decide +kernel
  have q2 : ∀ z ∈ ([("cell" : Str), "any", "keep", "tell", "end"] : List Str), (decide (z ∈ takL) || decide (z = "end")) = true := by decide +kernel
  cases s <;> first | exact (q _ (by simp [kindS])).symm | exact (q2 _ (by simp [kindS])).symm
theorem kind_fork (s : NW.Sp) : decide (kindS s = "fork") = (match s with | .fork _ => true | _ => false) := by
  have q : ∀ z ∈ ([("cell" : Str), "any", "keep", "tell", "end", "jump", "round", "check", "within", "put", "bump", "never"] : List Str), decide (z = "fork") = false := by decide +kernel
  cases s <;> first | exact q _ (by simp [kindS]) | exact decide_eq_true rfl
theorem ch_add (ch : List Nat) (k : Nat) (h : ch.length ≤ 100000) : pAdd (chV ch) (.tup [.int (k : Int)]) = some (chV (ch ++ [k])) := by
  have ia : immL (ch.map fun k => PV.int (k : Nat)) = true := immL_map _ _ fun _ _ => rfl
  show (if (ch.map fun k => PV.int (k : Nat)).length + 1 ≤ sizeLine ∧ immL (ch.map fun k => PV.int (k : Nat)) = true ∧ immL [PV.int (k : Int)] = true then some (PV.tup ((ch.map fun k => PV.int (k : Nat)) ++ [.int (k : Int)])) else none) = _
  rw [if_pos ⟨by rw [List.length_map]; exact le_size (by omega), ia, rfl⟩]
  simp [chV]
theorem pop_last (L : List PV) (x : PV) (h : immL (L ++ [x]) = true) : pPop (.lst (L ++ [x])) [] = some (x, .lst L) := by
  show (if immL (L ++ [x]) = true then ((L ++ [x])[(L ++ [x]).length - 1]?).map fun y => (y, PV.lst (L ++ [x]).dropLast) else none) = _
  rw [if_pos h]
  simp
/-- what waits: the next one last -/
def stk (l : List (NW.Nd NW.Pl)) : PV := .lst (l.reverse.map ndV)
theorem nd_imm (x : NW.Nd NW.Pl) : (ndV x).imm = true := by
  unfold ndV
  rw [imm_tup]
  simp [immL, held_imm, ch_imm]
theorem pop_stk (x : NW.Nd NW.Pl) (r : List (NW.Nd NW.Pl)) : pPop (stk (x :: r)) [] = some (ndV x, stk r) := by
  unfold stk
  rw [List.reverse_cons, List.map_append]
  exact pop_last _ _ (immL_all fun y hy => by
    rcases List.mem_append.mp hy with hy | hy
    · obtain ⟨z, _, rfl⟩ := List.mem_map.mp hy
      exact nd_imm z
    · rw [List.mem_singleton.mp hy]
      exact nd_imm x)
theorem push_stk (x : NW.Nd NW.Pl) (r : List (NW.Nd NW.Pl)) (h : r.length ≤ 100000) : pAppend (stk r) [ndV x] = some (.non, stk (x :: r)) := by
  unfold stk
  show (if (r.reverse.map ndV).length < sizeLine then some (PV.non, PV.lst (r.reverse.map ndV ++ [ndV x])) else none) = _
  rw [if_pos (by rw [List.length_map, List.length_reverse]; exact lt_size (by omega))]
  simp
end K28

/-! N9: settling: one turn. -/
namespace K28
open PySem PySem.Spec L2 PVL NW
def bTake : SM := (sExpr (eMeth "list" 3 pAppend (aCons (gOwn (eTup (aCons (gOwn (eVar 7)) (aCons (gOwn (eTup (aCons (gOwn (eVar 1)) (aCons (gOwn (eVar 2)) (aNil))))) (aNil))))) (aNil))))
def bPush : SM := (sExpr (eMeth "list" 4 pAppend (aCons (gOwn (eTup (aCons (gOwn (eR (rOp pIx (rOp pIx (rVar 6) (rC (.int 1))) (rVar 8)))) (aCons (gOwn (eVar 2)) (aCons (gOwn (eOp pAdd (gRef 7) (gOwn (eTup (aCons (gOwn (eVar 8)) (aNil)))))) (aNil)))))) (aNil))))
def bFork : SM := (sFor (itRv (eN (rCl pLen (raCons (rOp pIx (rVar 6) (rC (.int 1))) (raNil))))) (tgN 8) bPush)
def bPass : SM := (sSeq (sAsg (eCall m_passed (aCons (gRef 6) (aCons (gRef 1) (aCons (gRef 2) (aNil))))) (tgN 9)) (sIf (bE (eN (rOp pNotN (rVar 9) (rC .non)))) (sExpr (eMeth "list" 4 pAppend (aCons (gOwn (eTup (aCons (gOwn (eR (rOp pIx (rVar 9) (rC (.int 0))))) (aCons (gOwn (eR (rOp pIx (rVar 9) (rC (.int 1))))) (aCons (gOwn (eVar 7)) (aNil)))))) (aNil)))) (sNil)))
def bDisp : SM := (sIf (bOr (bE (eN (rOp pIn (rOp pIx (rVar 6) (rC (.int 0))) (rC (.tup [(.str "cell"), (.str "any"), (.str "keep"), (.str "tell")]))))) (bE (eN (rOp pEq (rOp pIx (rVar 6) (rC (.int 0))) (rC (.str "end")))))) bTake (sIf (bE (eN (rOp pEq (rOp pIx (rVar 6) (rC (.int 0))) (rC (.str "fork"))))) bFork bPass))
def bSet : SM := (sSeq (sAsg (eMeth0 "list" 4 pPop) (tgT 3 (tgsCons (tgN 1) (tgsCons (tgN 2) (tgsCons (tgN 7) (tgsNil)))))) (sSeq (sAug 5 pAddI (eC (.int 1))) (sSeq (sIf (bE (eN (rOp pGt (rVar 5) (rC (.int 5000))))) (sRaise "TooMany" ["what"] (aCons (gOwn (eC (.str "ways"))) (aNil))) (sNil)) (sSeq (sAsg (eR (rOp pIx (rVar 0) (rVar 1))) (tgN 6)) bDisp))))
theorem settle_is : b_m_settle = (sSeq (sAsg (eLst (aNil)) (tgN 3)) (sSeq (sAsg (eLst (aCons (gOwn (eTup (aCons (gOwn (eVar 1)) (aCons (gOwn (eVar 2)) (aCons (gOwn (eTup (aNil))) (aNil)))))) (aNil))) (tgN 4)) (sSeq (sAsg (eC (.int 0)) (tgN 5)) (sSeq (whileL (bTru (rVar 4)) bSet 100000) (sRet (eN (rCl pTuple (raCons (rVar 3) (raNil))))))))) := rfl
theorem ty_stk (l : List (NW.Nd NW.Pl)) : tyP "list" (stk l) = true := rfl
theorem nat_at {ts : List Nat} {k t : Nat} (h : ts[k]? = some t) : pIx (natsV ts) (.int (k : Int)) = some (.int (t : Int)) := by
  show atI (ts.map fun t => PV.int (t : Nat)) (k : Int) = _
  rw [at_nat _ _ (by omega), Int.toNat_natCast, List.getElem?_map, h]
  rfl
theorem push_r {ts : List Nat} {k t : Nat} (h : ts[k]? = some t) (g : List Int) (ch : List Nat) (hc : ch.length ≤ 100000) (l : List (NW.Nd NW.Pl)) (hl : l.length ≤ 100000) (y0 y1 y3 y5 y9 : Option PV) :
    bPush [y0, y1, some (heldV g), y3, some (stk l), y5, some (stV (.fork ts)), some (chV ch), some (.int (k : Int)), y9] = .next [y0, y1, some (heldV g), y3, some (stk (⟨ch ++ [k], (t, g)⟩ :: l)), y5, some (stV (.fork ts)), some (chV ch), some (.int (k : Int)), y9] := by
  have e1 : pIx (stV (.fork ts)) (.int 1) = some (natsV ts) := by simp [stV]
  have e2 := nat_at h
  have e3 := ch_add ch k hc
  have e4 := push_stk ⟨ch ++ [k], (t, g)⟩ l hl
  have e5 : ndV ⟨ch ++ [k], (t, g)⟩ = .tup [.int (t : Int), heldV g, chV (ch ++ [k])] := rfl
  rw [e5] at e4
  have i1 := held_imm g
  have i2 := ch_imm (ch ++ [k])
  have i3 := ch_imm ch
  have ht := ty_stk l
  have z3 : 3 ≤ sizeLine := le_size (by omega)
  have z1 : 1 ≤ sizeLine := le_size (by omega)
  generalize stk (⟨ch ++ [k], (t, g)⟩ :: l) = S2 at *
  generalize stk l = S1 at *
  generalize stV (.fork ts) = FV at *
  generalize natsV ts = NV at *
  generalize chV (ch ++ [k]) = C2 at *
  generalize chV ch = C1 at *
  generalize heldV g = G at *
  simp [bPush, e1, e2, e3, e4, i1, i2, i3, ht, z3, z1]
theorem rng_rev_succ (k : Nat) : (rngL 0 (k + 1)).reverse = .int (k : Int) :: (rngL 0 k).reverse := by
  unfold rngL
  rw [List.range_succ, List.map_append, List.reverse_append]
  simp
def mkN (g : List Int) (ch : List Nat) (t : Nat × Nat) : NW.Nd NW.Pl := ⟨ch ++ [t.2], (t.1, g)⟩
theorem forkL (g : List Int) (ch : List Nat) (hc : ch.length ≤ 100000) (ts : List Nat) (y0 y1 y3 y5 y9 : Option PV) : ∀ (k : Nat) (l : List (NW.Nd NW.Pl)) (y8 : Option PV), k ≤ ts.length → l.length + k ≤ 100000 → ∃ y8' : Option PV,
    forL (tgN 8) bPush (rngL 0 k).reverse [y0, y1, some (heldV g), y3, some (stk l), y5, some (stV (.fork ts)), some (chV ch), y8, y9] = .next [y0, y1, some (heldV g), y3, some (stk (((ts.take k).zipIdx).map (mkN g ch) ++ l)), y5, some (stV (.fork ts)), some (chV ch), y8', y9]
  | 0, l, y8, _, _ => ⟨y8, by simp [rngL]⟩
  | k + 1, l, y8, hk, hl => by
    have hkt : k < ts.length := by omega
    have ht : ts[k]? = some ts[k] := List.getElem?_eq_getElem hkt
    obtain ⟨y8', e⟩ := forkL g ch hc ts y0 y1 y3 y5 y9 k (⟨ch ++ [k], (ts[k], g)⟩ :: l) (some (.int (k : Int))) (by omega) (by simp only [List.length_cons]; omega)
    refine ⟨y8', ?_⟩
    rw [rng_rev_succ, forL_at (e := [y0, y1, some (heldV g), y3, some (stk l), y5, some (stV (.fork ts)), some (chV ch), some (.int (k : Int)), y9]) rfl, push_r ht g ch hc l (by omega), loopK_next, e]
    have : ((ts.take (k + 1)).zipIdx).map (mkN g ch) ++ l = ((ts.take k).zipIdx).map (mkN g ch) ++ ⟨ch ++ [k], (ts[k], g)⟩ :: l := by
      rw [List.take_succ, ht, List.zipIdx_append, List.map_append, List.append_assoc]
      have hlt : (ts.take k).length = k := by rw [List.length_take]; omega
      simp [mkN, hlt]
    rw [this]
theorem fork_r {ts : List Nat} (hts : ts.length ≤ 1000) (g : List Int) (ch : List Nat) (hc : ch.length ≤ 100000) (l : List (NW.Nd NW.Pl)) (hl : l.length ≤ 90000) (y0 y1 y3 y5 y8 y9 : Option PV) : ∃ y8' : Option PV,
    bFork [y0, y1, some (heldV g), y3, some (stk l), y5, some (stV (.fork ts)), some (chV ch), y8, y9] = .next [y0, y1, some (heldV g), y3, some (stk ((ts.zipIdx).map (mkN g ch) ++ l)), y5, some (stV (.fork ts)), some (chV ch), y8', y9] := by
  obtain ⟨y8', e⟩ := forkL g ch hc ts y0 y1 y3 y5 y9 ts.length l y8 (Nat.le_refl _) (by omega)
  rw [List.take_length] at e
  refine ⟨y8', ?_⟩
  have e1 : pIx (stV (.fork ts)) (.int 1) = some (natsV ts) := by simp [stV]
  have e2 : pLen [natsV ts] = some (.int ts.length) := by
    show some (PV.int (ts.map fun t => PV.int (t : Nat)).length) = _
    rw [List.length_map]
  have hr : rgS (ts.length : Int) = true := by
    unfold rgS
    simp only [Bool.and_eq_true, decide_eq_true_eq]
    omega
  generalize stV (.fork ts) = FV at *
  generalize natsV ts = NV at *
  generalize stk ((ts.zipIdx).map (mkN g ch) ++ l) = S2 at *
  generalize stk l = S1 at *
  generalize heldV g = G at *
  generalize chV ch = C at *
  have e3 : ((ts.length : Int)).toNat = ts.length := Int.toNat_natCast _
  simp [bFork, itRv, e1, e2, hr, e3, e]
end K28

/-! N10: settling. -/
namespace NW
variable {α : Type} (f : α → Bh α)
theorem size_next (k : Nat) (x : Nd α) : size f (k + 1) x.st = 1 + sumS f k (next f x) := by
  rw [size]
  unfold next sumS
  cases e : f x.st with
  | fin => rfl
  | fork ts =>
    simp only [List.map_map]
    have : ∀ (ts : List α) (i : Nat), (List.map ((fun x => size f k x.st) ∘ fun t => (⟨x.ch ++ [t.2], t.1⟩ : Nd α)) (ts.zipIdx i)).sum = (ts.map fun t => size f k t).sum := by
      intro ts
      induction ts with
      | nil => intro i; rfl
      | cons t ts ih => intro i; rw [List.zipIdx_cons, List.map_cons, List.sum_cons, ih]; rfl
    rw [this]
  | pass ts => simp only [List.map_map]; rfl
theorem sumS_up {k : Nat} : ∀ (l : List (Nd α)), (∀ y ∈ l, Done f k y.st) → sumS f (k + 1) l = sumS f k l
  | [], _ => rfl
  | y :: l, h => by
    show size f (k + 1) y.st + sumS f (k + 1) l = size f k y.st + sumS f k l
    rw [size_up f (h y List.mem_cons_self), sumS_up l fun z hz => h z (List.mem_cons_of_mem _ hz)]
theorem sumS_app (m : Nat) (a b : List (Nd α)) : sumS f m (a ++ b) = sumS f m a + sumS f m b := by
  unfold sumS
  rw [List.map_append, List.sum_append]
theorem next_S {n m : Nat} {x : Nd α} {r : List (Nd α)} (hd : ∀ y ∈ x :: r, Done f m y.st) (hs : sumS f m (x :: r) < n + 1) : (∀ y ∈ next f x ++ r, Done f m y.st) ∧ sumS f m (next f x ++ r) < n := by
  have hx := hd x List.mem_cons_self
  obtain ⟨k, rfl⟩ : ∃ k, m = k + 1 := by
    cases m with
    | zero => exact hx.elim
    | succ k => exact ⟨k, rfl⟩
  have hn := next_done f hx
  refine ⟨fun y hy => ?_, ?_⟩
  · rcases List.mem_append.mp hy with hy | hy
    · exact (hn y hy).up
    · exact hd y (List.mem_cons_of_mem _ hy)
  · rw [sumS_app, sumS_up f _ hn]
    have hs' : size f (k + 1) x.st + sumS f (k + 1) r < n + 1 := hs
    rw [size_next] at hs'
    omega
theorem deep_next (n : Nat) (x : Nd α) (r : List (Nd α)) : deep f (n + 1) (x :: r) = isFin f x ++ deep f n (next f x ++ r) := by
  show (match f x.st with | .fin => _ | .fork ts => _ | .pass ts => _) = _
  unfold isFin next
  cases e : f x.st <;> rfl
end NW
namespace K28
open PySem PySem.Spec L2 PVL NW
theorem take_r (q : Nat) (h : List Int) (ch : List Nat) (acc : List PV) (ha : acc.length ≤ 100000) (y0 y4 y5 y6 y8 y9 : Option PV) :
    bTake [y0, some (.int (q : Int)), some (heldV h), some (.lst acc), y4, y5, y6, some (chV ch), y8, y9] = .next [y0, some (.int (q : Int)), some (heldV h), some (.lst (acc ++ [fdV (ch, (q, h))])), y4, y5, y6, some (chV ch), y8, y9] := by
  have i1 := held_imm h
  have i3 := ch_imm ch
  have z2 : 2 ≤ sizeLine := le_size (by omega)
  have hz : acc.length < sizeLine := lt_size (by omega)
  have e : fdV (ch, (q, h)) = .tup [chV ch, .tup [.int (q : Int), heldV h]] := rfl
  rw [e]
  generalize heldV h = H at *
  generalize chV ch = C at *
  simp [bTake, i1, i3, z2, hz]
theorem notN_n : pNotN .non .non = some (.bl false) := rfl
theorem notN_t (x : List PV) : pNotN (.tup x) .non = some (.bl true) := rfl
theorem pass_r {s : NW.Sp} (hp : isPass s = true) {h : List Int} (hs : CtOk h.length s) (hl : h.length ≤ 100) (q : Nat) (ch : List Nat) (l : List (NW.Nd NW.Pl)) (hl2 : l.length ≤ 90000) (y0 y3 y5 y8 y9 : Option PV) : ∃ y9' : Option PV,
    bPass [y0, some (.int (q : Int)), some (heldV h), y3, some (stk l), y5, some (stV s), some (chV ch), y8, y9] = .next [y0, some (.int (q : Int)), some (heldV h), y3, some (stk ((pas s q h).map (fun t => ⟨ch, t⟩) ++ l)), y5, some (stV s), some (chV ch), y8, y9'] := by
  have e1 := passed_r hp hs hl q
  have hone : (pas s q h).length ≤ 1 := by
    cases s <;> simp only [pas] <;> (try split) <;> simp
  have i1 := held_imm h
  have i3 := ch_imm ch
  have i6 := stV_imm s
  have ht := ty_stk l
  have z3 : 3 ≤ sizeLine := le_size (by omega)
  match hpas : pas s q h, hone with
  | [], _ =>
    rw [hpas] at e1
    refine ⟨some .non, ?_⟩
    simp only [passV] at e1
    simp only [List.map_nil, List.nil_append]
    generalize stk l = S1 at *
    generalize heldV h = H at *
    generalize chV ch = C at *
    generalize stV s = SV at *
    simp [bPass, e1, i1, i3, i6, notN_n]
  | [t], _ =>
    rw [hpas] at e1
    refine ⟨some (plV t), ?_⟩
    have e4 := push_stk ⟨ch, t⟩ l (by omega)
    have e5 : ndV ⟨ch, t⟩ = .tup [.int (t.1 : Int), heldV t.2, chV ch] := rfl
    rw [e5] at e4
    have i7 := held_imm t.2
    have e6 : plV t = .tup [.int (t.1 : Int), heldV t.2] := rfl
    simp only [passV] at e1
    simp only [List.map_cons, List.map_nil, List.singleton_append]
    rw [e6] at e1 ⊢
    generalize stk (⟨ch, t⟩ :: l) = S2 at *
    generalize stk l = S1 at *
    generalize heldV h = H at *
    generalize heldV t.2 = H2 at *
    generalize chV ch = C at *
    generalize stV s = SV at *
    simp [bPass, e1, i1, i3, i6, i7, e4, ht, z3, notN_t]
  | _ :: _ :: _, hone => simp at hone
def StOk (many : Nat) (s : NW.Sp) : Prop := CtOk many s ∧ ∀ ts, s = .fork ts → ts.length ≤ 3
theorem kinds3 (s : NW.Sp) : s.stops = true ∨ (∃ ts, s = .fork ts) ∨ isPass s = true := by
  cases s <;> simp [NW.Sp.stops, isPass]
theorem pass_kind {s : NW.Sp} (h : isPass s = true) : s.stops = false ∧ decide (kindS s = "fork") = false := by
  rw [kind_fork]
  cases s <;> simp [isPass, NW.Sp.stops] at h ⊢
theorem disp_r {ss : List NW.Sp} {q : Nat} {s : NW.Sp} (hq : ss[q]? = some s) {h : List Int} (hs : StOk h.length s) (hl : h.length ≤ 100) (ch : List Nat) (hc : ch.length ≤ 100000) (acc : List PV) (ha : acc.length ≤ 100000) (l : List (NW.Nd NW.Pl)) (hl2 : l.length ≤ 90000) (y0 y5 y8 y9 : Option PV) : ∃ y8' y9' : Option PV,
    bDisp [y0, some (.int (q : Int)), some (heldV h), some (.lst acc), some (stk l), y5, some (stV s), some (chV ch), y8, y9] = .next [y0, some (.int (q : Int)), some (heldV h), some (.lst (acc ++ (isFin (beh ss) ⟨ch, (q, h)⟩).map fdV)), some (stk (next (beh ss) ⟨ch, (q, h)⟩ ++ l)), y5, some (stV s), some (chV ch), y8', y9'] := by
  have k1 := kind_at s
  have k2 := in_tak (kindS s)
  have k3 := kind_stops s
  rcases kinds3 s with h1 | ⟨ts, rfl⟩ | h1
  · have e := take_r q h ch acc ha y0 (some (stk l)) y5 (some (stV s)) y8 y9
    refine ⟨y8, y9, ?_⟩
    have ef := stop_fin hq h1 h
    have g1 : isFin (beh ss) (⟨ch, (q, h)⟩ : NW.Nd NW.Pl) = [(ch, (q, h))] := by unfold isFin; simp only [ef]
    have g2 : next (beh ss) (⟨ch, (q, h)⟩ : NW.Nd NW.Pl) = [] := by unfold next; simp only [ef]
    rw [g1, g2, List.nil_append, List.map_cons, List.map_nil]
    rw [h1] at k3
    have k4 : kindS s ∈ takL ∨ kindS s = "end" := by simpa using k3.symm
    generalize stk l = S1 at *
    generalize heldV h = H at *
    generalize chV ch = C at *
    generalize stV s = SV at *
    generalize fdV (ch, (q, h)) = FD at *
    by_cases hk : kindS s ∈ takL
    · rw [decide_eq_true hk] at k2
      simp [bDisp, k1, k2, e]
    · rw [decide_eq_false hk] at k2
      have k5 := k4.resolve_left hk
      have k6 : ¬ (("end" : Str) ∈ takL) := by decide +kernel
      rw [k5] at k1 k2
      simp [bDisp, k1, k2, e]
  · obtain ⟨y8', e⟩ := fork_r (ts := ts) (by have := hs.2 ts rfl; omega) h ch hc l hl2 y0 (some (.int (q : Int))) (some (.lst acc)) y5 y8 y9
    refine ⟨y8', y9, ?_⟩
    have ef : beh ss (q, h) = .fork (ts.map fun t => (t, h)) := by unfold beh; simp only [hq]
    have g1 : isFin (beh ss) (⟨ch, (q, h)⟩ : NW.Nd NW.Pl) = [] := by unfold isFin; simp only [ef]
    have g2 : next (beh ss) (⟨ch, (q, h)⟩ : NW.Nd NW.Pl) = (ts.zipIdx).map (mkN h ch) := by
      unfold next
      simp only [ef]
      rw [List.zipIdx_map, List.map_map]
      rfl
    rw [g1, g2, List.map_nil, List.append_nil]
    have k4 : kindS (.fork ts) = "fork" := rfl
    rw [k4] at k1 k2
    have k5 : ¬ (("fork" : Str) ∈ takL) := by decide +kernel
    have k6 : ¬ (("fork" : Str) = "end") := by decide +kernel
    rw [decide_eq_false k5] at k2
    generalize stk ((ts.zipIdx).map (mkN h ch) ++ l) = S2 at *
    generalize stk l = S1 at *
    generalize heldV h = H at *
    generalize chV ch = C at *
    generalize stV (.fork ts) = SV at *
    simp [bDisp, k1, k2, k6, e]
  · obtain ⟨y9', e⟩ := pass_r h1 hs.1 hl q ch l hl2 y0 (some (.lst acc)) y5 y8 y9
    refine ⟨y8, y9', ?_⟩
    have ef := beh_pas hq h1 h
    have g1 : isFin (beh ss) (⟨ch, (q, h)⟩ : NW.Nd NW.Pl) = [] := by unfold isFin; simp only [ef]
    have g2 : next (beh ss) (⟨ch, (q, h)⟩ : NW.Nd NW.Pl) = (pas s q h).map fun t => ⟨ch, t⟩ := by unfold next; simp only [ef]
    rw [g1, g2, List.map_nil, List.append_nil]
    obtain ⟨p1, p2⟩ := pass_kind h1
    rw [p1] at k3
    have k4 : ¬ (kindS s ∈ takL) ∧ ¬ (kindS s = "end") := by
      have := k3.symm
      simp only [Bool.or_eq_false_iff, decide_eq_false_iff_not] at this
      exact this
    have k5 : ¬ (kindS s = "fork") := by simpa using p2
    rw [decide_eq_false k4.1] at k2
    generalize stk ((pas s q h).map (fun t => ⟨ch, t⟩) ++ l) = S2 at *
    generalize stk l = S1 at *
    generalize heldV h = H at *
    generalize chV ch = C at *
    generalize stV s = SV at *
    simp [bDisp, k1, k2, k4.2, k5, e]
end K28

/-! N11: settling: all turns. -/
namespace K28
open PySem PySem.Spec L2 PVL NW
/-- a node that waits -/
def NOk (ss : List NW.Sp) (many w : Nat) (x : NW.Nd NW.Pl) : Prop := x.st.1 < ss.length ∧ x.st.2.length = many ∧ x.ch.length ≤ w
structure SsOk (ss : List NW.Sp) (many : Nat) : Prop where
  row : Row ss
  st : ∀ (q : Nat) (s : NW.Sp), ss[q]? = some s → StOk many s
  many : many ≤ 100
theorem set_len {h : List Int} {c : Nat} (hc : c < h.length) (v : Int) : (setAt h c v).length = h.length := by
  unfold setAt
  rw [List.length_append, List.length_append, List.length_take, List.length_drop, List.length_singleton]
  omega
theorem next_ok {ss : List NW.Sp} {many w : Nat} (ho : SsOk ss many) {x : NW.Nd NW.Pl} (hx : NOk ss many w x) : (∀ y ∈ next (beh ss) x, NOk ss many (w + 1) y) ∧ (next (beh ss) x).length ≤ 3 := by
  obtain ⟨ch, q, h⟩ := x
  obtain ⟨h1, h2, h3⟩ := hx
  simp only at h1 h2 h3
  have hq : ss[q]? = some ss[q] := List.getElem?_eq_getElem h1
  have hs := ho.st q _ hq
  have hr := ho.row q _ hq
  generalize ss[q] = s at *
  rcases kinds3 s with k | ⟨ts, rfl⟩ | k
  · have ef := stop_fin hq k h
    unfold next
    simp only [ef]
    exact ⟨by simp, by simp⟩
  · have ef : beh ss (q, h) = .fork (ts.map fun t => (t, h)) := by unfold beh; simp only [hq]
    unfold next
    simp only [ef]
    refine ⟨fun y hy => ?_, ?_⟩
    · obtain ⟨t, ht, rfl⟩ := List.mem_map.mp hy
      have ht1 := List.fst_mem_of_mem_zipIdx ht
      obtain ⟨u, hu, e⟩ := List.mem_map.mp ht1
      rw [← e]
      exact ⟨(hr u hu).2, h2, by rw [List.length_append, List.length_singleton]; omega⟩
    · rw [List.length_map, List.length_zipIdx, List.length_map]
      exact hs.2 ts rfl
  · have ef := beh_pas hq k h
    unfold next
    simp only [ef]
    have hone : (pas s q h).length ≤ 1 := by
      cases s <;> simp only [pas] <;> (try split) <;> simp
    have hst : ∀ t ∈ pas s q h, t.1 < ss.length ∧ t.2.length = many := by
      have hc := hs.1
      rw [← h2] at hc
      cases s with
      | jump t =>
        intro y hy
        rw [List.mem_singleton.mp hy]
        refine ⟨?_, h2⟩
        rcases hr with hr | ⟨hb, hb2⟩
        · exact hr.2
        · show t < ss.length
          rcases hb2 with ⟨hb3, _⟩ | ⟨c, hb3, _⟩
          · exact (List.getElem?_eq_some_iff.mp hb3).1
          · exact (List.getElem?_eq_some_iff.mp hb3).1
      | round c t =>
        intro y hy
        rw [List.mem_singleton.mp hy]
        split
        · exact ⟨hr.1.2, h2⟩
        · exact ⟨hr.2, h2⟩
      | check c v =>
        intro y hy
        simp only [pas] at hy
        split at hy
        · rw [List.mem_singleton.mp hy]; exact ⟨hr, h2⟩
        · simp at hy
      | within c lo hi =>
        intro y hy
        simp only [pas] at hy
        split at hy
        · rw [List.mem_singleton.mp hy]; exact ⟨hr, h2⟩
        · simp at hy
      | put c v =>
        intro y hy
        rw [List.mem_singleton.mp hy]
        exact ⟨hr, (set_len hc v).trans h2⟩
      | bump c b m =>
        intro y hy
        simp only [pas] at hy
        split at hy
        · rw [List.mem_singleton.mp hy]; exact ⟨hr, (set_len hc _).trans h2⟩
        · simp at hy
      | never => intro y hy; simp [pas] at hy
      | _ => simp [isPass] at k
    refine ⟨fun y hy => ?_, by rw [List.length_map]; omega⟩
    obtain ⟨t, ht, rfl⟩ := List.mem_map.mp hy
    exact ⟨(hst t ht).1, (hst t ht).2, by show ch.length ≤ w + 1; omega⟩
theorem turn_r {ss : List NW.Sp} {many w : Nat} (ho : SsOk ss many) {x : NW.Nd NW.Pl} {r : List (NW.Nd NW.Pl)} (hx : NOk ss many w x) (hw : w < 5000) (hl : r.length ≤ 90000) (acc : List PV) (ha : acc.length ≤ 100000) (y1 y2 y6 y7 y8 y9 : Option PV) : ∃ z6 z7 z8 z9 : Option PV, ∃ z1 z2 : Option PV,
    bSet [some (stepsV ss), y1, y2, some (.lst acc), some (stk (x :: r)), some (.int (w : Int)), y6, y7, y8, y9] = .next [some (stepsV ss), z1, z2, some (.lst (acc ++ (isFin (beh ss) x).map fdV)), some (stk (next (beh ss) x ++ r)), some (.int ((w + 1 : Nat) : Int)), z6, z7, z8, z9] := by
  obtain ⟨ch, q, h⟩ := x
  obtain ⟨h1, h2, h3⟩ := hx
  simp only at h1 h2 h3
  have hq : ss[q]? = some ss[q] := List.getElem?_eq_getElem h1
  have hs := ho.st q _ hq
  rw [← h2] at hs
  obtain ⟨y8', y9', e⟩ := disp_r hq hs (by rw [h2]; exact ho.many) ch (by omega) acc ha r hl (some (stepsV ss)) (some (.int ((w : Int) + 1))) y8 y9
  have e1 := pop_stk ⟨ch, (q, h)⟩ r
  have e2 := step_at hq
  have e3 : ndV ⟨ch, (q, h)⟩ = .tup [.int (q : Int), heldV h, chV ch] := rfl
  rw [e3] at e1
  have i1 := held_imm h
  have i2 := ch_imm ch
  have i3 := stV_imm ss[q]
  have i4 := steps_imm ss
  have ht := ty_stk (⟨ch, (q, h)⟩ :: r)
  have hw1 : ¬ (5000 < (w : Int) + 1) := by omega
  have hw2 : ((w + 1 : Nat) : Int) = (w : Int) + 1 := by omega
  refine ⟨some (stV ss[q]), some (chV ch), y8', y9', some (.int (q : Int)), some (heldV h), ?_⟩
  rw [hw2]
  generalize isFin (beh ss) (⟨ch, (q, h)⟩ : NW.Nd NW.Pl) = IF at *
  generalize stk (next (beh ss) (⟨ch, (q, h)⟩ : NW.Nd NW.Pl) ++ r) = S3 at *
  generalize stk (⟨ch, (q, h)⟩ :: r) = S2 at *
  generalize stk r = S1 at *
  generalize stV ss[q] = SV at *
  generalize stepsV ss = SS at *
  generalize heldV h = H at *
  generalize chV ch = C at *
  simp [bSet, e1, e2, i1, i2, i3, i4, ht, hw1, e]
theorem setW {ss : List NW.Sp} {many : Nat} (ho : SsOk ss many) (m : Nat) : ∀ (n N : Nat) (l : List (NW.Nd NW.Pl)) (acc : List PV) (w : Nat) (y1 y2 y6 y7 y8 y9 : Option PV), (∀ x ∈ l, NOk ss many w x) → (∀ x ∈ l, Done (beh ss) m x.st) → sumS (beh ss) m l < n → w + n ≤ 5000 → l.length ≤ 1 + 3 * w → acc.length ≤ w → n ≤ N →
    ∃ (z5 : Int) (z1 z2 z6 z7 z8 z9 : Option PV), whileL (bTru (rVar 4)) bSet N [some (stepsV ss), y1, y2, some (.lst acc), some (stk l), some (.int (w : Int)), y6, y7, y8, y9] = .next [some (stepsV ss), z1, z2, some (.lst (acc ++ (deep (beh ss) n l).map fdV)), some (stk []), some (.int z5), z6, z7, z8, z9] := by
  intro n
  induction n with
  | zero => intro N l acc w y1 y2 y6 y7 y8 y9 _ _ hs; omega
  | succ n ih =>
    intro N l acc w y1 y2 y6 y7 y8 y9 hx hd hs hw hll ha hN
    obtain ⟨M, rfl⟩ : ∃ M, N = M + 1 := ⟨N - 1, by omega⟩
    cases l with
    | nil =>
      refine ⟨(w : Int), y1, y2, y6, y7, y8, y9, ?_⟩
      have hb : bTru (rVar 4) [some (stepsV ss), y1, y2, some (.lst acc), some (stk []), some (.int (w : Int)), y6, y7, y8, y9] = .ok false [some (stepsV ss), y1, y2, some (.lst acc), some (stk []), some (.int (w : Int)), y6, y7, y8, y9] := by
        simp [stk]
      rw [whileL_stop hb]
      show _ = SO.next [_, _, _, some (.lst (acc ++ [])), _, _, _, _, _, _]
      rw [List.append_nil]
    | cons x r =>
      have hx0 := hx x List.mem_cons_self
      simp only [List.length_cons] at hll
      obtain ⟨z6, z7, z8, z9, z1, z2, e⟩ := turn_r ho hx0 (by omega) (r := r) (by omega) acc (by omega) y1 y2 y6 y7 y8 y9
      obtain ⟨n1, n2⟩ := next_ok ho hx0
      obtain ⟨s1, s2⟩ := next_S (beh ss) hd hs
      have hfl : (isFin (beh ss) x).length ≤ 1 := by unfold isFin; split <;> simp
      obtain ⟨v5, v1, v2, v6, v7, v8, v9, e2⟩ := ih M (next (beh ss) x ++ r) (acc ++ (isFin (beh ss) x).map fdV) (w + 1) z1 z2 z6 z7 z8 z9 (fun y hy => by
        rcases List.mem_append.mp hy with hy | hy
        · exact n1 y hy
        · have := hx y (List.mem_cons_of_mem _ hy)
          exact ⟨this.1, this.2.1, by have := this.2.2; omega⟩) s1 s2 (by omega) (by rw [List.length_append]; omega) (by rw [List.length_append, List.length_map]; omega) (by omega)
      refine ⟨v5, v1, v2, v6, v7, v8, v9, ?_⟩
      have hb : bTru (rVar 4) [some (stepsV ss), y1, y2, some (.lst acc), some (stk (x :: r)), some (.int (w : Int)), y6, y7, y8, y9] = .ok true [some (stepsV ss), y1, y2, some (.lst acc), some (stk (x :: r)), some (.int (w : Int)), y6, y7, y8, y9] := by
        simp [stk]
      rw [whileL_turn hb e, e2, deep_next, List.map_append, List.append_assoc]
/-- a settling -/
theorem settle_r {ss : List NW.Sp} {many : Nat} (ho : SsOk ss many) {w : Nat → Nat} (hw : Wt ss w) (h0 : w 0 ≤ 3) (hn : ss.length ≤ 16) {q : Nat} (hq : q < ss.length) {h : List Int} (hh : h.length = many) :
    m_settle [stepsV ss, .int (q : Int), heldV h] = .ok (.tup ((ways (beh ss) (2 * ss.length) (q, h)).map fdV)) [some (stepsV ss), some (.int (q : Int)), some (heldV h)] := by
  have hd : Done (beh ss) (2 * ss.length) (q, h) := (row_done ho.row _ q h (Nat.le_refl _) hq).le (by omega)
  have hs : size (beh ss) (2 * ss.length) (q, h) ≤ 1728 := Nat.le_trans (row_size ho.row hw _ q h _ (Nat.le_refl _) hq) (bd_most hw h0 hn q)
  have hl : ∀ x ∈ [(⟨[], (q, h)⟩ : NW.Nd NW.Pl)], Done (beh ss) (2 * ss.length) x.st := by
    intro x hx; rw [List.mem_singleton.mp hx]; exact hd
  have hS : sumS (beh ss) (2 * ss.length) [(⟨[], (q, h)⟩ : NW.Nd NW.Pl)] < 5000 := by
    show size (beh ss) (2 * ss.length) (q, h) + 0 < 5000
    omega
  obtain ⟨z5, z1, z2, z6, z7, z8, z9, e⟩ := setW ho (2 * ss.length) 5000 100000 [⟨[], (q, h)⟩] [] 0 (some (.int (q : Int))) (some (heldV h)) none none none none (by
    intro x hx; rw [List.mem_singleton.mp hx]; exact ⟨hq, hh, Nat.le_refl _⟩) hl hS (by omega) (by simp) (by simp) (by omega)
  rw [deep_ok (beh ss) 5000 (2 * ss.length) _ hl hS] at e
  have ew : sumW (beh ss) (2 * ss.length) [(⟨[], (q, h)⟩ : NW.Nd NW.Pl)] = ways (beh ss) (2 * ss.length) (q, h) := by
    show pre [] (ways (beh ss) (2 * ss.length) (q, h)) ++ [] = _
    rw [List.append_nil, pre_nil]
  rw [ew, List.nil_append] at e
  have i1 := held_imm h
  have i4 := steps_imm ss
  have hfd : immL ((ways (beh ss) (2 * ss.length) (q, h)).map fdV) = true := immL_map _ _ fun x _ => by
    unfold fdV plV
    rw [imm_tup]
    simp [immL, ch_imm, held_imm]
  have e0 : stk [⟨[], (q, h)⟩] = .lst [.tup [.int (q : Int), heldV h, .tup []]] := rfl
  rw [e0] at e
  have z3 : 3 ≤ sizeLine := le_size (by omega)
  have z1' : 1 ≤ sizeLine := le_size (by omega)
  unfold m_settle
  rw [fnM_at (by simp [i1])]
  rw [settle_is]
  generalize ((ways (beh ss) (2 * ss.length) (q, h)).map fdV) = WS at *
  generalize stepsV ss = SS at *
  generalize heldV h = H at *
  have ez : ((0 : Nat) : Int) = 0 := rfl
  rw [ez] at e
  simp [i1, i4, z3, z1', e, hfd]
end K28

/-! N12: the law sorts its ways. -/
namespace K28
open PySem PySem.Spec PySem.W L2 PVL NW
def intsD (h : List Int) : PyData := .tuple (h.map .int)
def chI (ch : List Nat) : List Int := ch.map fun k => ((k : Nat) : Int)
def fdD (w : List Nat × NW.Pl) : PyData := .tuple [intsD (chI w.1), .tuple [.int (w.2.1 : Int), intsD w.2.2]]
theorem pDL_ints2 : ∀ f : List Int, pDL (f.map .int) = some (f.map .int)
  | [] => rfl
  | x :: f => by simp [pDL, pD, pDL_ints2 f]
theorem pD_fd (w : List Nat × NW.Pl) : pD (fdV w) = some (fdD w) := by
  have e1 : pD (chV w.1) = some (intsD (chI w.1)) := by
    have : chV w.1 = .tup ((chI w.1).map .int) := by unfold chV chI; rw [List.map_map]; rfl
    rw [this]
    simp [pD, pDL_ints2, intsD]
  have e2 : pD (heldV w.2.2) = some (intsD w.2.2) := by
    unfold heldV
    simp [pD, pDL_ints2, intsD]
  simp [fdV, plV, pD, pDL, e1, e2, fdD]
theorem pDL_fd : ∀ xs : List (List Nat × NW.Pl), pDL (xs.map fdV) = some (xs.map fdD)
  | [] => rfl
  | x :: xs => by simp [pDL, pD_fd, pDL_fd xs]
theorem alike_fd (a b : List Nat × NW.Pl) : alike (fdD a) (fdD b) = true := by
  simp [fdD, intsD, alike, alikeAll, alike_ints]
theorem alike_ch (a b : List Nat × NW.Pl) : alike (intsD (chI a.1)) (intsD (chI b.1)) = true := by
  simp [intsD, alike, alike_ints]
theorem depth_fd (w : List Nat × NW.Pl) : (fdD w).depth ≤ 50 := by
  have h : ∀ f : List Int, PyData.depthAll (f.map .int) = 0 := PySem.W.depth_ints
  simp [fdD, intsD, PyData.depth, PyData.depthAll, h]
theorem sortOk_fd (xs : List (List Nat × NW.Pl)) : sortOk (xs.map fdD) = true := by
  unfold sortOk
  simp only [Bool.and_eq_true, Bool.or_eq_true, List.all_eq_true, decide_eq_true_eq, List.mem_map]
  refine ⟨?_, .inl ?_, ?_⟩
  · rintro d ⟨a, _, rfl⟩ d' ⟨b, _, rfl⟩
    exact alike_fd a b
  · rintro d ⟨a, _, rfl⟩
    rfl
  · rintro d ⟨a, _, rfl⟩
    exact depth_fd a
abbrev leF : (List Nat × NW.Pl) → (List Nat × NW.Pl) → Bool := dataLe false fdD
theorem srtP_fd (xs : List (List Nat × NW.Pl)) : srtP (xs.map fdV) (xs.map fdD) = (xs.mergeSort leF).map fdV := by
  unfold srtP
  have e : (xs.map fdV).zip (xs.map fdD) = xs.map fun w => (fdV w, fdD w) := by
    rw [List.zip_map']
  rw [e]
  have m : (xs.mergeSort leF).map (fun w => (fdV w, fdD w)) = (xs.map fun w => (fdV w, fdD w)).mergeSort (dataLe false Prod.snd) := List.map_mergeSort (fun _ _ _ _ => rfl)
  show ((xs.map fun w => (fdV w, fdD w)).mergeSort (dataLe false Prod.snd)).map Prod.fst = _
  rw [← m, List.map_map]
  rfl
theorem lexL_lt : ∀ {a b : List Nat}, lexL a b → chI a < chI b
  | [], _, h => by simp [lexL] at h
  | _ :: _, [], h => by simp [lexL] at h
  | x :: a, y :: b, h => by
    show ((x : Nat) : Int) :: chI a < ((y : Nat) : Int) :: chI b
    rcases h with h | ⟨rfl, h⟩
    · exact List.Lex.rel (by omega)
    · exact List.Lex.cons (lexL_lt h)
theorem eqvAll_ints : ∀ a b : List Int, PyData.eqvAll (a.map .int) (b.map .int) = true → a = b
  | [], [], _ => rfl
  | [], y :: b, h => by simp [PyData.eqvAll] at h
  | x :: a, [], h => by simp [PyData.eqvAll] at h
  | x :: a, y :: b, h => by
    rw [List.map_cons, List.map_cons, PyData.eqvAll, Bool.and_eq_true] at h
    obtain ⟨h1, h2⟩ := h
    have e : x = y := by simpa [PyData.eqv] using h1
    rw [e, eqvAll_ints a b h2]
theorem eqv_intsD {a b : List Int} (h : a ≠ b) : PyData.eqv (intsD a) (intsD b) = false := by
  cases e : PyData.eqv (intsD a) (intsD b) with
  | false => rfl
  | true =>
    unfold intsD at e
    rw [PyData.eqv] at e
    exact absurd (eqvAll_ints a b e) h
theorem lt_intsD (a b : List Int) : dataLt (intsD a) (intsD b) = decide (a < b) := by
  unfold intsD
  rw [dataLt_tuple]
  exact dataLt_ints a b
theorem lt_fd {a b : List Nat × NW.Pl} (h : lexL a.1 b.1) : dataLt (fdD a) (fdD b) = true ∧ dataLt (fdD b) (fdD a) = false := by
  have hlt := lexL_lt h
  have hnlt : ¬ (chI b.1 < chI a.1) := fun q => absurd (List.lt_trans hlt q) (List.lt_irrefl _)
  have hne : chI a.1 ≠ chI b.1 := fun q => by rw [q] at hlt; exact List.lt_irrefl _ hlt
  have al : ∀ a b : List Nat × NW.Pl, alike (.tuple [.int (a.2.1 : Int), intsD a.2.2]) (.tuple [.int (b.2.1 : Int), intsD b.2.2]) = true := by
    intro a b
    simp [intsD, alike, alikeAll, alike_ints]
  constructor
  · unfold fdD
    rw [dataLt_pair (alike_ch a b) (al a b), eqv_intsD hne, lt_intsD]
    simp [hlt]
  · unfold fdD
    rw [dataLt_pair (alike_ch b a) (al b a), eqv_intsD (Ne.symm hne), lt_intsD]
    simp [hnlt]
theorem le_fd {a b : List Nat × NW.Pl} (h : lexL a.1 b.1) : leF a b = true ∧ leF b a = false := by
  obtain ⟨h1, h2⟩ := lt_fd h
  unfold leF
  rw [dataLe_eq]
  simp [h1, h2]
theorem sorted_ways {W xs : List (List Nat × NW.Pl)} (hp : xs.Perm W) (hw : W.Pairwise fun x y => lexL x.1 y.1) : xs.mergeSort leF = W := by
  have ht : TotalLe leF := sortLe_total _ _ _
  have p1 := sort_pairwise ht xs
  have p2 : (xs.mergeSort leF).Perm W := (List.mergeSort_perm xs leF).trans hp
  have p3 : W.Pairwise fun a b => leF a b = true := hw.imp fun h => (le_fd h).1
  refine List.Perm.eq_of_pairwise (le := fun a b => leF a b = true) (fun a b ha hb h1 h2 => ?_) p1 p3 p2
  have ha' : a ∈ W := p2.mem_iff.mp ha
  by_cases e : a = b
  · exact e
  · exfalso
    obtain ⟨i, hi, ei⟩ := List.mem_iff_getElem.mp ha'
    obtain ⟨j, hj, ej⟩ := List.mem_iff_getElem.mp hb
    have hpw := List.pairwise_iff_getElem.mp hw
    rcases Nat.lt_trichotomy i j with h | h | h
    · have := hpw i j hi hj h
      rw [ei, ej] at this
      rw [(le_fd this).2] at h2
      cases h2
    · subst h
      exact e (ei.symm.trans ej)
    · have := hpw j i hj hi h
      rw [ei, ej] at this
      rw [(le_fd this).2] at h1
      cases h1
/-- what sorted(..) tells of the ways met level by level -/
theorem sorted_r {W xs : List (List Nat × NW.Pl)} (hp : xs.Perm W) (hw : W.Pairwise fun x y => lexL x.1 y.1) : pSorted [.lst (xs.map fdV)] = some (.lst (W.map fdV)) := by
  have hi : immL (xs.map fdV) = true := immL_map _ _ fun x _ => by
    unfold fdV plV
    rw [imm_tup]
    simp [immL, ch_imm, held_imm]
  rw [pSorted_l, pDL_fd, Option.bind_some, if_pos ⟨hi, sortOk_fd xs⟩, srtP_fd, sorted_ways hp hw]
end K28

/-! N13: the law's ways. -/
namespace K28
open PySem PySem.Spec L2 PVL NW
def mFk : EM := (eTup (aCons (gOwn (eOp pAdd (gRef 7) (gOwn (eTup (aCons (gOwn (eVar 11)) (aNil)))))) (aCons (gOwn (eR (rOp pIx (rOp pIx (rVar 10) (rC (.int 1))) (rVar 11)))) (aCons (gOwn (eVar 9)) (aNil)))))
def mPs : EM := (eTup (aCons (gOwn (eVar 7)) (aCons (gOwn (eR (rOp pIx (rVar 12) (rC (.int 0))))) (aCons (gOwn (eR (rOp pIx (rVar 12) (rC (.int 1))))) (aNil)))))
def bLTake : SM := (sExpr (eMeth "list" 3 pAppend (aCons (gOwn (eTup (aCons (gOwn (eVar 7)) (aCons (gOwn (eTup (aCons (gOwn (eVar 8)) (aCons (gOwn (eVar 9)) (aNil))))) (aNil))))) (aNil))))
def bLFork : SM := (sExpr (eMethB "list" 6 pExtend (aCons (gOwn (eLC (itR1 (aCons (gOwn (eN (rCl pLen (raCons (rOp pIx (rVar 10) (rC (.int 1))) (raNil))))) (aNil))) [11] (tgN 11) (bYes) mFk)) (aNil))))
def bLPass : SM := (sExpr (eMethB "list" 6 pExtend (aCons (gOwn (eLC (itS (eCall m__law_onward (aCons (gRef 10) (aCons (gRef 8) (aCons (gRef 9) (aNil)))))) [12] (tgN 12) (bYes) mPs)) (aNil))))
def bLIn : SM := (sSeq (sAsg (eR (rOp pIx (rVar 0) (rVar 8))) (tgN 10)) (sIf (bE (eOp pIn (gOwn (eR (rOp pIx (rVar 10) (rC (.int 0))))) (gOwn (eTup (aCons (gOwn (eC (.str "cell"))) (aCons (gOwn (eC (.str "any"))) (aCons (gOwn (eC (.str "keep"))) (aCons (gOwn (eC (.str "tell"))) (aCons (gOwn (eC (.str "end"))) (aNil)))))))))) bLTake (sIf (bE (eN (rOp pEq (rOp pIx (rVar 10) (rC (.int 0))) (rC (.str "fork"))))) bLFork bLPass)))
def bLTurn : SM := (sSeq (sAsg (eLst (aNil)) (tgN 6)) (sSeq (sForVS 4 (tgT 3 (tgsCons (tgN 7) (tgsCons (tgN 8) (tgsCons (tgN 9) (tgsNil))))) bLIn) (sAsg (eVar 6) (tgN 4))))
theorem lways_is : b_m__law_ways = (sSeq (sAsg (eLst (aNil)) (tgN 3)) (sSeq (sAsg (eLst (aCons (gOwn (eTup (aCons (gOwn (eTup (aNil))) (aCons (gOwn (eVar 1)) (aCons (gOwn (eVar 2)) (aNil)))))) (aNil))) (tgN 4)) (sSeq (sFor (itR1 (aCons (gOwn (eN (rOp pMul (rC (.int 2)) (rCl pLen (raCons (rVar 0) (raNil)))))) (aNil))) (tgN 5) bLTurn) (sRet (eN (rCl pTuple (raCons (rCl pSorted (raCons (rVar 3) (raNil))) (raNil)))))))) := rfl
def lvV (x : NW.Nd NW.Pl) : PV := .tup [chV x.ch, .int (x.st.1 : Int), heldV x.st.2]
theorem lv_imm (x : NW.Nd NW.Pl) : (lvV x).imm = true := by
  unfold lvV
  rw [imm_tup]
  simp [immL, held_imm, ch_imm]
def lstL (l : List (NW.Nd NW.Pl)) : PV := .lst (l.map lvV)
theorem lst_immL (l : List (NW.Nd NW.Pl)) : immL (l.map lvV) = true := immL_map _ _ fun x _ => lv_imm x
def stopL : List Str := ["cell", "any", "keep", "tell", "end"]
theorem in_stop (z : Str) : pIn (.str z) (.tup [.str "cell", .str "any", .str "keep", .str "tell", .str "end"]) = some (.bl (decide (z ∈ stopL))) := in_strs2 z stopL
theorem kind_stopL (s : NW.Sp) : s.stops = decide (kindS s ∈ stopL) := by
  rw [kind_stops]
  by_cases h1 : kindS s ∈ takL
  · have : kindS s ∈ stopL := by
      simp only [takL, stopL, List.mem_cons, List.not_mem_nil, or_false] at h1 ⊢
      rcases h1 with h | h | h | h <;> simp [h]
    rw [decide_eq_true h1, decide_eq_true this]; rfl
  · by_cases h2 : kindS s = "end"
    · have : kindS s ∈ stopL := by rw [h2]; simp [stopL]
      rw [decide_eq_true h2, decide_eq_true this, Bool.or_true]
    · have : ¬ (kindS s ∈ stopL) := by
        intro h
        simp only [stopL, takL, List.mem_cons, List.not_mem_nil, or_false] at h h1
        rcases h with h | h | h | h | h
        · exact h1 (.inl h)
        · exact h1 (.inr (.inl h))
        · exact h1 (.inr (.inr (.inl h)))
        · exact h1 (.inr (.inr (.inr h)))
        · exact h2 h
      rw [decide_eq_false h1, decide_eq_false h2, decide_eq_false this]; rfl
theorem ltake_r (q : Nat) (h : List Int) (ch : List Nat) (acc : List PV) (ha : acc.length ≤ 900000) (y0 y1 y2 y4 y5 y6 y10 y11 y12 : Option PV) :
    bLTake [y0, y1, y2, some (.lst acc), y4, y5, y6, some (chV ch), some (.int (q : Int)), some (heldV h), y10, y11, y12] = .next [y0, y1, y2, some (.lst (acc ++ [fdV (ch, (q, h))])), y4, y5, y6, some (chV ch), some (.int (q : Int)), some (heldV h), y10, y11, y12] := by
  have i1 := held_imm h
  have i3 := ch_imm ch
  have z2 : 2 ≤ sizeLine := le_size (by omega)
  have hz : acc.length < sizeLine := lt_size (by omega)
  have e : fdV (ch, (q, h)) = .tup [chV ch, .tup [.int (q : Int), heldV h]] := rfl
  rw [e]
  generalize heldV h = H at *
  generalize chV ch = C at *
  simp [bLTake, i1, i3, z2, hz]
theorem mFk_r {ts : List Nat} {k t : Nat} (h : ts[k]? = some t) (g : List Int) (ch : List Nat) (hc : ch.length ≤ 100000) (y0 y1 y2 y3 y4 y5 y6 y8 y12 : Option PV) :
    mFk [y0, y1, y2, y3, y4, y5, y6, some (chV ch), y8, some (heldV g), some (stV (.fork ts)), some (.int (k : Int)), y12] = .ok (lvV (mkN g ch (t, k))) [y0, y1, y2, y3, y4, y5, y6, some (chV ch), y8, some (heldV g), some (stV (.fork ts)), some (.int (k : Int)), y12] := by
  have e1 : pIx (stV (.fork ts)) (.int 1) = some (natsV ts) := by simp [stV]
  have e2 := nat_at h
  have e3 := ch_add ch k hc
  have e5 : lvV (mkN g ch (t, k)) = .tup [chV (ch ++ [k]), .int (t : Int), heldV g] := rfl
  rw [e5]
  have i1 := held_imm g
  have i2 := ch_imm (ch ++ [k])
  have i3 := ch_imm ch
  have z3 : 3 ≤ sizeLine := le_size (by omega)
  have z1 : 1 ≤ sizeLine := le_size (by omega)
  generalize stV (.fork ts) = FV at *
  generalize natsV ts = NV at *
  generalize chV (ch ++ [k]) = C2 at *
  generalize chV ch = C1 at *
  generalize heldV g = G at *
  simp [mFk, e1, e2, e3, i1, i2, i3, z3, z1]
theorem fkL {ts : List Nat} (g : List Int) (ch : List Nat) (hc : ch.length ≤ 100000) (y0 y1 y2 y3 y4 y5 y6 y8 y12 : Option PV) : ∀ (n k : Nat) (acc : List PV), k + n = ts.length → acc.length + n ≤ 900000 →
    lcL [11] (tgN 11) bYes mFk ((List.range n).map fun i => .int ((k : Int) + (i : Nat))) acc [y0, y1, y2, y3, y4, y5, y6, some (chV ch), y8, some (heldV g), some (stV (.fork ts)), none, y12] =
      .ok (.lst (acc ++ (((ts.drop k).zipIdx k).map fun t => lvV (mkN g ch t)))) [y0, y1, y2, y3, y4, y5, y6, some (chV ch), y8, some (heldV g), some (stV (.fork ts)), none, y12]
  | 0, k, acc, hk, _ => by
    have : ts.drop k = [] := List.drop_of_length_le (by omega)
    rw [this]
    simp
  | n + 1, k, acc, hk, ha => by
    have hkt : k < ts.length := by omega
    have ht : ts[k]? = some ts[k] := List.getElem?_eq_getElem hkt
    have ih := fkL (ts := ts) g ch hc y0 y1 y2 y3 y4 y5 y6 y8 y12 n (k + 1) (acc ++ [lvV (mkN g ch (ts[k], k))]) (by omega) (by rw [List.length_append, List.length_singleton]; omega)
    have er : ((List.range (n + 1)).map fun i => PV.int ((k : Int) + (i : Nat))) = .int (k : Int) :: ((List.range n).map fun i => PV.int (((k + 1 : Nat) : Int) + (i : Nat))) := by
      rw [List.range_succ_eq_map, List.map_cons, List.map_map]
      have e0 : PV.int ((k : Int) + ((0 : Nat) : Int)) = .int (k : Int) := by congr 1
      have e1 : (List.range n).map ((fun i => PV.int ((k : Int) + (i : Nat))) ∘ Nat.succ) = (List.range n).map fun i => PV.int (((k + 1 : Nat) : Int) + (i : Nat)) := by
        refine List.map_congr_left fun i _ => ?_
        show PV.int ((k : Int) + ((i + 1 : Nat) : Int)) = PV.int (((k + 1 : Nat) : Int) + (i : Nat))
        congr 1; omega
      rw [e0, e1]
    rw [er, lcL_cons]
    have et : tgN 11 (.int (k : Int)) [y0, y1, y2, y3, y4, y5, y6, some (chV ch), y8, some (heldV g), some (stV (.fork ts)), none, y12] = some [y0, y1, y2, y3, y4, y5, y6, some (chV ch), y8, some (heldV g), some (stV (.fork ts)), some (.int (k : Int)), y12] := rfl
    have hz : acc.length < sizeLine := lt_size (by omega)
    rw [et]
    simp only [bYes_ap, if_true, mFk_r ht g ch hc, if_pos hz]
    show lcL [11] (tgN 11) bYes mFk _ _ [y0, y1, y2, y3, y4, y5, y6, some (chV ch), y8, some (heldV g), some (stV (.fork ts)), none, y12] = _
    rw [ih]
    have ed : ts.drop k = ts[k] :: ts.drop (k + 1) := List.drop_eq_getElem_cons hkt
    rw [ed, List.zipIdx_cons, List.map_cons, List.append_assoc]
    rfl
theorem ext_lst (a b : List (NW.Nd NW.Pl)) (h : a.length + b.length ≤ 900000) : pExtend (lstL a) [lstL b] = some (.non, lstL (a ++ b)) := by
  have hi := lst_immL b
  show (if (a.map lvV).length + (b.map lvV).length ≤ sizeLine ∧ immL (b.map lvV) = true then some (PV.non, PV.lst (a.map lvV ++ b.map lvV)) else none) = _
  rw [if_pos ⟨by rw [List.length_map, List.length_map]; exact le_size (by omega), hi⟩]
  simp [lstL]
theorem lfork_r {ts : List Nat} (hts : ts.length ≤ 1000) (g : List Int) (ch : List Nat) (hc : ch.length ≤ 100000) (l : List (NW.Nd NW.Pl)) (hl : l.length ≤ 800000) (y0 y1 y2 y3 y4 y5 y8 y12 : Option PV) :
    bLFork [y0, y1, y2, y3, y4, y5, some (lstL l), some (chV ch), y8, some (heldV g), some (stV (.fork ts)), none, y12] = .next [y0, y1, y2, y3, y4, y5, some (lstL (l ++ (ts.zipIdx).map (mkN g ch))), some (chV ch), y8, some (heldV g), some (stV (.fork ts)), none, y12] := by
  have e := fkL (ts := ts) g ch hc y0 y1 y2 y3 y4 y5 (some (lstL l)) y8 y12 ts.length 0 [] (by omega) (by simp; omega)
  rw [List.drop_zero, List.nil_append] at e
  have er : ((List.range ts.length).map fun i => PV.int (((0 : Nat) : Int) + (i : Nat))) = rngL 0 ts.length := rfl
  rw [er] at e
  have e1 : pIx (stV (.fork ts)) (.int 1) = some (natsV ts) := by simp [stV]
  have e2 : pLen [natsV ts] = some (.int ts.length) := by
    show some (PV.int (ts.map fun t => PV.int (t : Nat)).length) = _
    rw [List.length_map]
  have hk : rngOk (ts.length : Int) := rngOk_of (by omega) (by omega)
  have e4 := ext_lst l ((ts.zipIdx).map (mkN g ch)) (by rw [List.length_map, List.length_zipIdx]; omega)
  have e5 : lstL ((ts.zipIdx).map (mkN g ch)) = .lst ((ts.zipIdx 0).map fun t => lvV (mkN g ch t)) := by
    unfold lstL; rw [List.map_map]; rfl
  rw [← e5] at e
  have ht : tyP "list" (lstL l) = true := rfl
  have hn : (lstL ((ts.zipIdx).map (mkN g ch))).imm = false := rfl
  generalize lstL (l ++ (ts.zipIdx).map (mkN g ch)) = L3 at *
  generalize lstL ((ts.zipIdx).map (mkN g ch)) = L2 at *
  generalize lstL l = L1 at *
  generalize stV (.fork ts) = FV at *
  generalize natsV ts = NV at *
  generalize chV ch = C1 at *
  generalize heldV g = G at *
  simp [bLFork, e1, e2, hk, e, e4, ht]
end K28

/-! N14: the law's ways: all. -/
namespace K28
open PySem PySem.Spec L2 PVL NW
theorem pl_imm (t : NW.Pl) : (plV t).imm = true := by
  unfold plV
  rw [imm_tup]
  simp [immL, held_imm]
theorem lpass_r {s : NW.Sp} (hp : isPass s = true) {h : List Int} (hs : CtOk h.length s) (hl : h.length ≤ 100) (q : Nat) (ch : List Nat) (l : List (NW.Nd NW.Pl)) (hl2 : l.length ≤ 800000) (y0 y1 y2 y3 y4 y5 y11 : Option PV) :
    bLPass [y0, y1, y2, y3, y4, y5, some (lstL l), some (chV ch), some (.int (q : Int)), some (heldV h), some (stV s), y11, none] = .next [y0, y1, y2, y3, y4, y5, some (lstL (l ++ (pas s q h).map (fun t => ⟨ch, t⟩))), some (chV ch), some (.int (q : Int)), some (heldV h), some (stV s), y11, none] := by
  have e1 := onward_r hp hs hl q
  have hone : (pas s q h).length ≤ 1 := by
    cases s <;> simp only [pas] <;> (try split) <;> simp
  have i1 := held_imm h
  have i3 := ch_imm ch
  have i6 := stV_imm s
  have z3 : 3 ≤ sizeLine := le_size (by omega)
  have e4 := ext_lst l ((pas s q h).map (fun t => (⟨ch, t⟩ : NW.Nd NW.Pl))) (by rw [List.length_map]; omega)
  have ht : tyP "list" (lstL l) = true := rfl
  match hpas : pas s q h, hone with
  | [], _ =>
    rw [hpas] at e1 e4
    have e5 : lstL (([] : List NW.Pl).map (fun t => (⟨ch, t⟩ : NW.Nd NW.Pl))) = .lst [] := rfl
    rw [e5] at e4
    simp only [List.map_nil, List.append_nil] at e1 e4 ⊢
    generalize lstL l = L1 at *
    generalize stV s = SV at *
    generalize chV ch = C1 at *
    generalize heldV h = H at *
    simp [bLPass, e1, e4, i1, i3, i6, ht]
  | [t], _ =>
    rw [hpas] at e1 e4
    have e5 : lstL ([t].map (fun t => (⟨ch, t⟩ : NW.Nd NW.Pl))) = .lst [.tup [chV ch, .int (t.1 : Int), heldV t.2]] := rfl
    rw [e5] at e4
    have e6 : plV t = .tup [.int (t.1 : Int), heldV t.2] := rfl
    have i7 := held_imm t.2
    simp only [List.map_cons, List.map_nil] at e1 e4 ⊢
    rw [e6] at e1
    generalize lstL (l ++ [(⟨ch, t⟩ : NW.Nd NW.Pl)]) = L3 at *
    generalize lstL l = L1 at *
    generalize stV s = SV at *
    generalize chV ch = C1 at *
    generalize heldV t.2 = H2 at *
    generalize heldV h = H at *
    simp [bLPass, lcL_cons, mPs, e1, e4, i1, i3, i6, i7, ht, z3]
  | _ :: _ :: _, hone => simp at hone
theorem lin_r {ss : List NW.Sp} {many w : Nat} (ho : SsOk ss many) {x : NW.Nd NW.Pl} (hx : NOk ss many w x) (hw : w ≤ 90000) (l : List (NW.Nd NW.Pl)) (hl : l.length ≤ 800000) (acc : List PV) (ha : acc.length ≤ 900000) (y1 y2 y4 y5 y10 : Option PV) : ∃ z10 : Option PV,
    bLIn [some (stepsV ss), y1, y2, some (.lst acc), y4, y5, some (lstL l), some (chV x.ch), some (.int (x.st.1 : Int)), some (heldV x.st.2), y10, none, none] = .next [some (stepsV ss), y1, y2, some (.lst (acc ++ (isFin (beh ss) x).map fdV)), y4, y5, some (lstL (l ++ next (beh ss) x)), some (chV x.ch), some (.int (x.st.1 : Int)), some (heldV x.st.2), z10, none, none] := by
  obtain ⟨ch, q, h⟩ := x
  obtain ⟨h1, h2, h3⟩ := hx
  simp only at h1 h2 h3 ⊢
  have hq : ss[q]? = some ss[q] := List.getElem?_eq_getElem h1
  have hs := ho.st q _ hq
  rw [← h2] at hs
  have e2 := step_at hq
  generalize ss[q] = s at *
  have k1 := kind_at s
  have k2 := in_stop (kindS s)
  have k3 := kind_stopL s
  have i3 := stV_imm s
  have i4 := steps_imm ss
  have z5 : 5 ≤ sizeLine := le_size (by omega)
  refine ⟨some (stV s), ?_⟩
  rcases kinds3 s with k | ⟨ts, rfl⟩ | k
  · have e := ltake_r q h ch acc ha (some (stepsV ss)) y1 y2 y4 y5 (some (lstL l)) (some (stV s)) none none
    have ef := stop_fin hq k h
    have g1 : isFin (beh ss) (⟨ch, (q, h)⟩ : NW.Nd NW.Pl) = [(ch, (q, h))] := by unfold isFin; simp only [ef]
    have g2 : next (beh ss) (⟨ch, (q, h)⟩ : NW.Nd NW.Pl) = [] := by unfold next; simp only [ef]
    rw [g1, g2, List.append_nil, List.map_cons, List.map_nil]
    rw [← k3, k] at k2
    generalize lstL l = L1 at *
    generalize stepsV ss = SS at *
    generalize heldV h = H at *
    generalize chV ch = C at *
    generalize stV s = SV at *
    generalize fdV (ch, (q, h)) = FD at *
    simp [bLIn, e2, k1, k2, i3, i4, z5, e]
  · have e := lfork_r (ts := ts) (by have := hs.2 ts rfl; omega) h ch (by omega) l hl (some (stepsV ss)) y1 y2 (some (.lst acc)) y4 y5 (some (.int (q : Int))) none
    have ef : beh ss (q, h) = .fork (ts.map fun t => (t, h)) := by unfold beh; simp only [hq]
    have g1 : isFin (beh ss) (⟨ch, (q, h)⟩ : NW.Nd NW.Pl) = [] := by unfold isFin; simp only [ef]
    have g2 : next (beh ss) (⟨ch, (q, h)⟩ : NW.Nd NW.Pl) = (ts.zipIdx).map (mkN h ch) := by
      unfold next
      simp only [ef]
      rw [List.zipIdx_map, List.map_map]
      rfl
    rw [g1, g2, List.map_nil, List.append_nil]
    have k0 : (NW.Sp.fork ts).stops = false := rfl
    rw [← k3, k0] at k2
    have k4 : kindS (.fork ts) = "fork" := rfl
    rw [k4] at k1 k2
    generalize lstL (l ++ (ts.zipIdx).map (mkN h ch)) = L3 at *
    generalize lstL l = L1 at *
    generalize stepsV ss = SS at *
    generalize heldV h = H at *
    generalize chV ch = C at *
    generalize stV (.fork ts) = SV at *
    simp [bLIn, e2, k1, k2, i3, i4, z5, e]
  · have e := lpass_r k hs.1 (by rw [h2]; exact ho.many) q ch l hl (some (stepsV ss)) y1 y2 (some (.lst acc)) y4 y5 none
    have ef := beh_pas hq k h
    have g1 : isFin (beh ss) (⟨ch, (q, h)⟩ : NW.Nd NW.Pl) = [] := by unfold isFin; simp only [ef]
    have g2 : next (beh ss) (⟨ch, (q, h)⟩ : NW.Nd NW.Pl) = (pas s q h).map fun t => ⟨ch, t⟩ := by unfold next; simp only [ef]
    rw [g1, g2, List.map_nil, List.append_nil]
    obtain ⟨p1, p2⟩ := pass_kind k
    rw [← k3, p1] at k2
    have k5 : ¬ (kindS s = "fork") := by simpa using p2
    generalize lstL (l ++ (pas s q h).map fun t => (⟨ch, t⟩ : NW.Nd NW.Pl)) = L3 at *
    generalize lstL l = L1 at *
    generalize stepsV ss = SS at *
    generalize heldV h = H at *
    generalize chV ch = C at *
    generalize stV s = SV at *
    simp [bLIn, e2, k1, k2, i3, i4, z5, k5, e]
end K28

/-! N15: the law's ways: the levels. -/
namespace K28
open PySem PySem.Spec L2 PVL NW
abbrev tg789 : TM := tgT 3 (tgsCons (tgN 7) (tgsCons (tgN 8) (tgsCons (tgN 9) (tgsNil))))
theorem tg_r (x : NW.Nd NW.Pl) (y0 y1 y2 y3 y4 y5 y6 y7 y8 y9 y10 y11 y12 : Option PV) : tg789 (lvV x) [y0, y1, y2, y3, y4, y5, y6, y7, y8, y9, y10, y11, y12] = some [y0, y1, y2, y3, y4, y5, y6, some (chV x.ch), some (.int (x.st.1 : Int)), some (heldV x.st.2), y10, y11, y12] := by
  have i1 := held_imm x.st.2
  have i3 := ch_imm x.ch
  simp [tg789, tgT, tgsCons, tgsNil, tgN, lvV, i1, i3]
theorem levL {ss : List NW.Sp} {many w : Nat} (ho : SsOk ss many) (hw : w ≤ 90000) (y1 y2 y4 y5 : Option PV) : ∀ (l l2 : List (NW.Nd NW.Pl)) (acc : List PV) (y7 y8 y9 y10 : Option PV), (∀ x ∈ l, NOk ss many w x) → l2.length + 3 * l.length ≤ 800000 → acc.length + l.length ≤ 900000 → ∃ z7 z8 z9 z10 : Option PV,
    forL tg789 bLIn (l.map lvV) [some (stepsV ss), y1, y2, some (.lst acc), y4, y5, some (lstL l2), y7, y8, y9, y10, none, none] = .next [some (stepsV ss), y1, y2, some (.lst (acc ++ (l.map (isFin (beh ss))).flatten.map fdV)), y4, y5, some (lstL (l2 ++ (l.map (next (beh ss))).flatten)), z7, z8, z9, z10, none, none]
  | [], l2, acc, y7, y8, y9, y10, _, _, _ => ⟨y7, y8, y9, y10, by simp⟩
  | x :: l, l2, acc, y7, y8, y9, y10, hx, h1, h2 => by
    simp only [List.length_cons] at h1 h2
    have hx0 := hx x List.mem_cons_self
    obtain ⟨z10, e⟩ := lin_r ho hx0 hw l2 (by omega) acc (by omega) y1 y2 y4 y5 y10
    have hn := (next_ok ho hx0).2
    have hf : (isFin (beh ss) x).length ≤ 1 := by unfold isFin; split <;> simp
    obtain ⟨v7, v8, v9, v10, e2⟩ := levL ho hw y1 y2 y4 y5 l (l2 ++ next (beh ss) x) (acc ++ (isFin (beh ss) x).map fdV) (some (chV x.ch)) (some (.int (x.st.1 : Int))) (some (heldV x.st.2)) z10 (fun y hy => hx y (List.mem_cons_of_mem _ hy)) (by rw [List.length_append]; omega) (by rw [List.length_append, List.length_map]; omega)
    refine ⟨v7, v8, v9, v10, ?_⟩
    rw [List.map_cons, forL_at (tg_r x _ _ _ _ _ _ _ _ _ _ _ _ _), e, loopK_next, e2]
    simp only [List.map_cons, List.flatten_cons, List.map_append, List.append_assoc]
end K28

/-! N16: the law's ways. -/
namespace NW
variable {α : Type} (f : α → Bh α)
theorem size_pos {m : Nat} {a : α} (h : Done f m a) : 1 ≤ size f m a := by
  cases m with
  | zero => exact h.elim
  | succ m => rw [size]; split <;> omega
theorem lev_sum {m : Nat} : ∀ (l : List (Nd α)), (∀ x ∈ l, Done f m x.st) → (∀ y ∈ (l.map (next f)).flatten, Done f m y.st) ∧ (l.map (isFin f)).flatten.length + sumS f m (l.map (next f)).flatten ≤ sumS f m l ∧ l.length ≤ sumS f m l
  | [], _ => ⟨by simp, by simp [sumS], by simp [sumS]⟩
  | x :: l, h => by
    obtain ⟨h1, h2, h3⟩ := lev_sum l fun y hy => h y (List.mem_cons_of_mem _ hy)
    have hx := h x List.mem_cons_self
    have hp := size_pos f hx
    obtain ⟨k, rfl⟩ : ∃ k, m = k + 1 := by
      cases m with
      | zero => exact hx.elim
      | succ k => exact ⟨k, rfl⟩
    have hn := next_done f hx
    have hf : (isFin f x).length ≤ 1 := by unfold isFin; split <;> simp
    have e : sumS f (k + 1) (x :: l) = size f (k + 1) x.st + sumS f (k + 1) l := rfl
    rw [e]
    rw [List.map_cons, List.map_cons, List.flatten_cons, List.flatten_cons]
    refine ⟨fun y hy => ?_, ?_, by simp only [List.length_cons]; omega⟩
    · rcases List.mem_append.mp hy with hy | hy
      · exact (hn y hy).up
      · exact h1 y hy
    · rw [List.length_append, sumS_app, sumS_up f _ hn, size_next]
      omega
end NW
namespace K28
open PySem PySem.Spec L2 PVL NW
theorem lturn_r {ss : List NW.Sp} {many w : Nat} (ho : SsOk ss many) (hw : w ≤ 90000) (l : List (NW.Nd NW.Pl)) (acc : List PV) (hx : ∀ x ∈ l, NOk ss many w x) (hl : l.length ≤ 20000) (ha : acc.length ≤ 100000) (y1 y2 y5 y6 y7 y8 y9 y10 : Option PV) : ∃ z7 z8 z9 z10 : Option PV,
    bLTurn [some (stepsV ss), y1, y2, some (.lst acc), some (lstL l), y5, y6, y7, y8, y9, y10, none, none] = .next [some (stepsV ss), y1, y2, some (.lst (acc ++ (l.map (isFin (beh ss))).flatten.map fdV)), some (lstL (l.map (next (beh ss))).flatten), y5, none, z7, z8, z9, z10, none, none] := by
  obtain ⟨z7, z8, z9, z10, e⟩ := levL ho hw y1 y2 none y5 l [] acc y7 y8 y9 y10 hx (by simp; omega) (by omega)
  refine ⟨z7, z8, z9, z10, ?_⟩
  have hi := lst_immL l
  have e0 : lstL [] = .lst [] := rfl
  rw [e0, List.nil_append] at e
  have hn : (lstL (l.map (next (beh ss))).flatten).imm = false := rfl
  have el : lstL l = .lst (l.map lvV) := rfl
  rw [el]
  generalize lstL (l.map (next (beh ss))).flatten = L2 at *
  generalize (l.map (isFin (beh ss))).flatten.map fdV = FD at *
  generalize l.map lvV = LV at *
  generalize stepsV ss = SS at *
  simp only [tg789] at e
  simp [bLTurn, hi, e, hn, SO.mapE]
theorem lturns {ss : List NW.Sp} {many : Nat} (ho : SsOk ss many) (m : Nat) (y1 y2 : Option PV) : ∀ (its : List PV) (l : List (NW.Nd NW.Pl)) (acc : List PV) (w : Nat) (y5 y6 y7 y8 y9 y10 : Option PV), (∀ x ∈ l, NOk ss many w x) → (∀ x ∈ l, Done (beh ss) m x.st) → acc.length + sumS (beh ss) m l ≤ 20000 → w + its.length ≤ 90000 →
    ∃ (z4 z5 z6 z7 z8 z9 z10 : Option PV), forL (tgN 5) bLTurn its [some (stepsV ss), y1, y2, some (.lst acc), some (lstL l), y5, y6, y7, y8, y9, y10, none, none] = .next [some (stepsV ss), y1, y2, some (.lst (acc ++ (lev (beh ss) its.length l).map fdV)), z4, z5, z6, z7, z8, z9, z10, none, none]
  | [], l, acc, w, y5, y6, y7, y8, y9, y10, _, _, _, _ => ⟨some (lstL l), y5, y6, y7, y8, y9, y10, by simp [lev]⟩
  | k :: its, l, acc, w, y5, y6, y7, y8, y9, y10, hx, hd, hs, hw => by
    simp only [List.length_cons] at hw
    obtain ⟨g1, g2, g3⟩ := lev_sum (beh ss) l hd
    obtain ⟨z7, z8, z9, z10, e⟩ := lturn_r ho (by omega) l acc hx (by omega) (by omega) y1 y2 (some k) y6 y7 y8 y9 y10
    obtain ⟨v4, v5, v6, v7, v8, v9, v10, e2⟩ := lturns ho m y1 y2 its (l.map (next (beh ss))).flatten (acc ++ (l.map (isFin (beh ss))).flatten.map fdV) (w + 1) (some k) none z7 z8 z9 z10 (fun y hy => by
      obtain ⟨q, hq, hy⟩ := List.mem_flatten.mp hy
      obtain ⟨x, hx2, rfl⟩ := List.mem_map.mp hq
      exact (next_ok ho (hx x hx2)).1 y hy) g1 (by rw [List.length_append, List.length_map]; omega) (by omega)
    refine ⟨v4, v5, v6, v7, v8, v9, v10, ?_⟩
    rw [forL_at (e := [some (stepsV ss), y1, y2, some (.lst acc), some (lstL l), some k, y6, y7, y8, y9, y10, none, none]) rfl, e, loopK_next, e2]
    show _ = SO.next [_, _, _, some (.lst (acc ++ ((l.map (isFin (beh ss))).flatten ++ lev (beh ss) its.length (l.map (next (beh ss))).flatten).map fdV)), _, _, _, _, _, _, _, _, _]
    rw [List.map_append, List.append_assoc]
end K28

/-! N17: the law's ways are the program's. -/
namespace K28
open PySem PySem.Spec L2 PVL NW
theorem lways_r {ss : List NW.Sp} {many : Nat} (ho : SsOk ss many) {w : Nat → Nat} (hw : Wt ss w) (h0 : w 0 ≤ 3) (hn : ss.length ≤ 16) {q : Nat} (hq : q < ss.length) {h : List Int} (hh : h.length = many) :
    m__law_ways [stepsV ss, .int (q : Int), heldV h] = .ok (.tup ((ways (beh ss) (2 * ss.length) (q, h)).map fdV)) [some (stepsV ss), some (.int (q : Int)), some (heldV h)] := by
  have hd : Done (beh ss) (2 * ss.length) (q, h) := (row_done ho.row _ q h (Nat.le_refl _) hq).le (by omega)
  have hs : size (beh ss) (2 * ss.length) (q, h) ≤ 1728 := Nat.le_trans (row_size ho.row hw _ q h _ (Nat.le_refl _) hq) (bd_most hw h0 hn q)
  have hl : ∀ x ∈ [(⟨[], (q, h)⟩ : NW.Nd NW.Pl)], Done (beh ss) (2 * ss.length) x.st := by
    intro x hx; rw [List.mem_singleton.mp hx]; exact hd
  have hS : sumS (beh ss) (2 * ss.length) [(⟨[], (q, h)⟩ : NW.Nd NW.Pl)] ≤ 5000 := by
    show size (beh ss) (2 * ss.length) (q, h) + 0 ≤ 5000
    omega
  have hlen : (rngL 0 (2 * ss.length)).length = 2 * ss.length := ints_len _ _
  obtain ⟨z4, z5, z6, z7, z8, z9, z10, e⟩ := lturns ho (2 * ss.length) (some (.int (q : Int))) (some (heldV h)) (rngL 0 (2 * ss.length)) [⟨[], (q, h)⟩] [] 0 none none none none none none (by
    intro x hx; rw [List.mem_singleton.mp hx]; exact ⟨hq, hh, Nat.le_refl _⟩) hl (by simp only [List.length_nil]; omega) (by rw [hlen]; omega)
  rw [hlen, List.nil_append] at e
  have hp := lev_ok (beh ss) (2 * ss.length) (2 * ss.length) _ hl (Nat.le_refl _)
  have ew : sumW (beh ss) (2 * ss.length) [(⟨[], (q, h)⟩ : NW.Nd NW.Pl)] = ways (beh ss) (2 * ss.length) (q, h) := by
    show pre [] (ways (beh ss) (2 * ss.length) (q, h)) ++ [] = _
    rw [List.append_nil, pre_nil]
  rw [ew] at hp
  have hsrt := sorted_r hp (ways_sorted (beh ss) (fun a ts e => beh_one ss a ts e) (2 * ss.length) (q, h))
  have i1 := held_imm h
  have i4 := steps_imm ss
  have hfd : immL ((ways (beh ss) (2 * ss.length) (q, h)).map fdV) = true := immL_map _ _ fun x _ => by
    unfold fdV plV
    rw [imm_tup]
    simp [immL, ch_imm, held_imm]
  have e0 : lstL [⟨[], (q, h)⟩] = .lst [.tup [.tup [], .int (q : Int), heldV h]] := rfl
  rw [e0] at e
  have z3 : 3 ≤ sizeLine := le_size (by omega)
  have z1' : 1 ≤ sizeLine := le_size (by omega)
  have hlen2 : pLen [stepsV ss] = some (.int ss.length) := by
    show some (PV.int (ss.map stV).length) = _
    rw [List.length_map]
  have hmul : pMul (.int 2) (.int (ss.length : Int)) = some (.int ((2 * ss.length : Nat) : Int)) := by
    rw [mulSm (by omega) (by omega)]
    congr 2
  have hk : rngOk ((2 * ss.length : Nat) : Int) := rngOk_of (by omega) (by omega)
  have ht : (((2 * ss.length : Nat) : Int)).toNat = 2 * ss.length := Int.toNat_natCast _
  unfold m__law_ways
  rw [fnM_at rfl, lways_is]
  generalize ((ways (beh ss) (2 * ss.length) (q, h)).map fdV) = WS at *
  generalize (lev (beh ss) (2 * ss.length) [(⟨[], (q, h)⟩ : NW.Nd NW.Pl)]).map fdV = LS at *
  generalize stepsV ss = SS at *
  generalize heldV h = H at *
  generalize ((2 * ss.length : Nat) : Int) = TN at *
  simp [i1, i4, z3, z1', hlen2, hmul, hk, ht, e, hsrt, hfd, -pSorted_l]
end K28

/-! N18: the ups of a step, one behind the other. -/
namespace K28
open PySem PySem.Spec L2 PVL NW
def upsF : List Up → Int → List Int → Option (List Int)
  | [], _, h => some h
  | u :: us, cell, h => match lift u (h.getD (Up.at u) 0) cell with
    | none => none
    | some v => upsF us cell (h.set (Up.at u) v)
def hL (h : List Int) : PV := .lst (h.map .int)
theorem up_at (u : Up) : pIx (upV u) (.int 1) = some (.int ((Up.at u) : Int)) := by
  cases u <;> simp [upV, Up.at]
theorem up_lt {many : Nat} {u : Up} (h : UpOk many u) : (Up.at u) < many := by
  cases u <;> first | exact h | exact h.1
theorem hL_at {h : List Int} {c : Nat} (hc : c < h.length) : pIx (hL h) (.int (c : Int)) = some (.int (h.getD c 0)) := held_at hc
theorem hL_set {h : List Int} {c : Nat} (hc : c < h.length) (v : Int) : pSetL (hL h) (.int (c : Int)) (.int v) = some (hL (h.set c v)) := by
  show (ixN (h.map PV.int).length (c : Int)).map (fun j => PV.lst ((h.map PV.int).set j (.int v))) = _
  have : ixN (h.map PV.int).length (c : Int) = some c := by
    unfold ixN
    rw [if_pos (by omega), List.length_map, if_pos (by omega), Int.toNat_natCast]
  rw [this, Option.map_some]
  unfold hL
  rw [List.map_set]
def bUp : SM := (sSeq (sAsg (eCall m_raised_by (aCons (gRef 5) (aCons (gOwn (eR (rOp pIx (rVar 4) (rOp pIx (rVar 5) (rC (.int 1)))))) (aCons (gRef 3) (aNil))))) (tgN 6)) (sSeq (sIf (bE (eN (rOp pIsN (rVar 6) (rC .non)))) (sRet (eC .non)) (sNil)) (sSetIx 4 (rOp pIx (rVar 5) (rC (.int 1))) pSetL (eVar 6))))
theorem up_imm (u : Up) : (upV u).imm = true := by
  cases u <;> simp [upV, immL]
theorem upL (y0 y1 y2 : Option PV) (cell : Int) : ∀ (us : List Up) (h : List Int) (y5 y6 : Option PV), (∀ u ∈ us, UpOk h.length u) → ∃ z4 z5 z6 : Option PV,
    forL (tgN 5) bUp (us.map upV) [y0, y1, y2, some (.int cell), some (hL h), y5, y6] = (match upsF us cell h with
      | some h' => .next [y0, y1, y2, some (.int cell), some (hL h'), z5, z6]
      | none => .ret .non [y0, y1, y2, some (.int cell), z4, z5, z6])
  | [], h, y5, y6, _ => ⟨none, y5, y6, rfl⟩
  | u :: us, h, y5, y6, hu => by
    have hu0 := hu u List.mem_cons_self
    have hc := up_lt hu0
    have e1 := up_at u
    have e2 := hL_at hc
    have e3 := raised_r hu0 (h.getD (Up.at u) 0) cell
    have i1 := up_imm u
    rw [List.map_cons, forL_at (e := [y0, y1, y2, some (.int cell), some (hL h), some (upV u), y6]) rfl]
    unfold upsF
    cases el : lift u (h.getD (Up.at u) 0) cell with
    | none =>
      rw [el] at e3
      refine ⟨some (hL h), some (upV u), some .non, ?_⟩
      simp only [optI] at e3
      generalize h.getD (Up.at u) 0 = x at *
      generalize hL h = L1 at *
      generalize upV u = U at *
      simp [bUp, e1, e2, e3, i1, loopK, pIsN, isN]
    | some v =>
      rw [el] at e3
      simp only [optI] at e3
      have e4 := hL_set hc v
      obtain ⟨z4, z5, z6, e5⟩ := upL y0 y1 y2 cell us (h.set (Up.at u) v) (some (upV u)) (some (.int v)) (fun x hx => by rw [List.length_set]; exact hu x (List.mem_cons_of_mem _ hx))
      refine ⟨z4, z5, z6, ?_⟩
      have eb : bUp [y0, y1, y2, some (.int cell), some (hL h), some (upV u), y6] = .next [y0, y1, y2, some (.int cell), some (hL (h.set (Up.at u) v)), some (upV u), some (.int v)] := by
        generalize h.getD (Up.at u) 0 = x at *
        generalize hL (h.set (Up.at u) v) = L2 at *
        generalize hL h = L1 at *
        generalize upV u = U at *
        simp [bUp, e1, e2, e3, e4, i1, pIsN, isN]
      rw [eb, loopK_next]
      exact e5
end K28

/-! N19: a step that takes a cell. -/
namespace K28
open PySem PySem.Spec L2 PVL NW
def upsOf : NW.Sp → List Up
  | .cell _ _ us => us
  | .any _ us => us
  | .keep _ _ us => us
  | .tell _ _ _ us => us
  | _ => []
def begF (s : NW.Sp) (base cell : Int) (h : List Int) : List Int := match s with
  | .keep c _ _ => h.set c (h.getD c 0 * base + cell)
  | _ => h
def cnt (s : NW.Sp) (base cell : Int) (h : List Int) : Option (List Int) := upsF (upsOf s) cell (begF s base cell h)
def optH : Option (List Int) → PV
  | none => .non
  | some h => heldV h
def bKeep : SM := (sIf (bE (eN (rOp pEq (rOp pIx (rVar 0) (rC (.int 0))) (rC (.str "keep"))))) (sSetIx 4 (rOp pIx (rVar 0) (rC (.int 1))) pSetL (eN (rOp pAdd (rOp pMul (rOp pIx (rVar 4) (rOp pIx (rVar 0) (rC (.int 1)))) (rVar 1)) (rVar 3)))) (sNil))
theorem counted_is : b_m_counted = (sSeq (sAsg (eN (rCl pListP (raCons (rVar 2) (raNil)))) (tgN 4)) (sSeq bKeep (sSeq (sFor (itS (eR (rOp pIx (rVar 0) (rUn pNeg (rC (.int 1)))))) (tgN 5) bUp) (sRet (eN (rCl pTuple (raCons (rVar 4) (raNil)))))))) := rfl
theorem ups_last (s : NW.Sp) (h : s.stops = true) (hf : s ≠ .fin) : pIx (stV s) (.int (-1)) = some (upsV (upsOf s)) := by
  cases s with
  | cell v lb us => rfl
  | any lb us => rfl
  | keep c lb us => rfl
  | tell c k lb us => rfl
  | fin => exact absurd rfl hf
  | _ => simp [NW.Sp.stops] at h
theorem ups_imm (us : List Up) : immL (us.map upV) = true := immL_map _ _ fun u _ => up_imm u
theorem counted_r {s : NW.Sp} (h : s.stops = true) (hf : s ≠ .fin) {base cell : Int} (hb0 : 0 ≤ base) (hb : base < 100) {g : List Int} (hg : g.length ≤ 100) (hu : ∀ u ∈ upsOf s, UpOk g.length u) (hk : ∀ c lb us, s = .keep c lb us → c < g.length) :
    m_counted [stV s, .int base, heldV g, .int cell] = .ok (optH (cnt s base cell g)) [some (stV s), some (.int base), some (heldV g), some (.int cell)] := by
  have i1 := held_imm g
  have i2 := stV_imm s
  have k1 := kind_at s
  have e1 := ups_last s h hf
  have e2 : pListP [heldV g] = some (hL g) := by
    have : immL (g.map PV.int) = true := immL_map _ _ fun _ _ => rfl
    show (if immL (g.map PV.int) = true then some (PV.lst (g.map PV.int)) else none) = _
    rw [if_pos this]
    rfl
  have hlen : (begF s base cell g).length = g.length := by
    cases s <;> simp [begF]
  obtain ⟨z4, z5, z6, e3⟩ := upL (some (stV s)) (some (.int base)) (some (heldV g)) cell (upsOf s) (begF s base cell g) none none (by rw [hlen]; exact hu)
  have hmid : bKeep
      [some (stV s), some (.int base), some (heldV g), some (.int cell), some (hL g), none, none] = .next [some (stV s), some (.int base), some (heldV g), some (.int cell), some (hL (begF s base cell g)), none, none] := by
    have ne : ∀ z ∈ ([("cell" : Str), "any", "tell"] : List Str), z ≠ "keep" := by decide +kernel
    cases s with
    | keep c lb us =>
      have hc := hk c lb us rfl
      have q1 : pIx (stV (.keep c lb us)) (.int 1) = some (.int (c : Int)) := by simp [stV]
      have q2 := hL_at hc
      have q3 := mulSm (a := g.getD c 0) hb0 hb
      have q4 := hL_set hc (g.getD c 0 * base + cell)
      have k2 : kindS (.keep c lb us) = "keep" := rfl
      rw [k2] at k1
      have eb : begF (.keep c lb us) base cell g = g.set c (g.getD c 0 * base + cell) := rfl
      rw [eb]
      generalize g.getD c 0 = x at *
      generalize hL (g.set c (x * base + cell)) = L2 at *
      generalize hL g = L1 at *
      generalize stV (.keep c lb us) = SV at *
      simp [bKeep, k1, q1, q2, q3, q4]
    | cell v lb us =>
      have := ne "cell" (by simp)
      have k2 : kindS (.cell v lb us) = "cell" := rfl
      rw [k2] at k1
      generalize stV (.cell v lb us) = SV at *
      simp [bKeep, k1, this, begF]
    | any lb us =>
      have := ne "any" (by simp)
      have k2 : kindS (.any lb us) = "any" := rfl
      rw [k2] at k1
      generalize stV (.any lb us) = SV at *
      simp [bKeep, k1, this, begF]
    | tell c k lb us =>
      have := ne "tell" (by simp)
      have k2 : kindS (.tell c k lb us) = "tell" := rfl
      rw [k2] at k1
      generalize stV (.tell c k lb us) = SV at *
      simp [bKeep, k1, this, begF]
    | fin => exact absurd rfl hf
    | _ => simp [NW.Sp.stops] at h
  have hui := ups_imm (upsOf s)
  unfold m_counted cnt
  rw [fnM_at rfl, counted_is]
  have e1' : pIx (stV s) (.int (-1)) = some (.tup ((upsOf s).map upV)) := e1
  clear e1
  cases ec : upsF (upsOf s) cell (begF s base cell g) with
  | none =>
    rw [ec] at e3
    simp only at e3
    generalize (upsOf s).map upV = US at *
    generalize hL (begF s base cell g) = L2 at *
    generalize hLg : hL g = L1 at *
    have hn : L1.imm = false := by rw [← hLg]; rfl
    generalize heldV g = G at *
    generalize stV s = SV at *
    simp [e2, hmid, e1', hui, e3, i1, i2, hn, optH]
  | some g' =>
    rw [ec] at e3
    simp only at e3
    have hgi : immL (g'.map PV.int) = true := immL_map _ _ fun _ _ => rfl
    have et : hL g' = .lst (g'.map .int) := rfl
    have eg : heldV g' = .tup (g'.map .int) := rfl
    rw [et] at e3
    simp only [optH]
    rw [eg]
    generalize (upsOf s).map upV = US at *
    generalize hL (begF s base cell g) = L2 at *
    generalize hLg : hL g = L1 at *
    have hn : L1.imm = false := by rw [← hLg]; rfl
    generalize heldV g = G at *
    generalize stV s = SV at *
    generalize g'.map PV.int = GV at *
    simp [e2, hmid, e1', hui, e3, i1, i2, hn, hgi]
end K28

/-! N20: the cells that a step can take. -/
namespace K28
open PySem PySem.Spec L2 PVL NW
def cellsOf (s : NW.Sp) (base : Int) (g : List Int) : List Int := match s with
  | .cell v _ _ => [v]
  | .tell c k _ _ => [(g.getD c 0 / k) % base]
  | _ => (List.range base.toNat).map fun i => ((i : Nat) : Int)
theorem cells_r {s : NW.Sp} (h : s.stops = true) (hf : s ≠ .fin) {base : Int} (hb0 : 0 < base) (hb : base < 100) {g : List Int} (hk : ∀ c k lb us, s = .tell c k lb us → c < g.length ∧ 0 < k ∧ k < 10000) :
    m_cells_for [stV s, .int base, heldV g] = .ok (.lst ((cellsOf s base g).map .int)) [some (stV s), some (.int base), some (heldV g)] := by
  have i1 := held_imm g
  have i2 := stV_imm s
  have k1 := kind_at s
  have z1 : 1 ≤ sizeLine := le_size (by omega)
  have hr : rgS base = true := by
    unfold rgS
    simp only [Bool.and_eq_true, decide_eq_true_eq]
    omega
  have ne : ("any" : Str) ≠ "cell" ∧ ("any" : Str) ≠ "tell" ∧ ("keep" : Str) ≠ "cell" ∧ ("keep" : Str) ≠ "tell" ∧ ("tell" : Str) ≠ "cell" := by decide +kernel
  have er : rngL 0 base.toNat = ((List.range base.toNat).map fun i => ((i : Nat) : Int)).map PV.int := by
    unfold rngL
    rw [List.map_map]
    refine List.map_congr_left fun i _ => ?_
    show PV.int (0 + (i : Nat)) = PV.int (i : Nat)
    rw [Int.zero_add]
  unfold m_cells_for
  rw [fnM_at rfl]
  cases s with
  | cell v lb us =>
    generalize heldV g = G at *
    simp [b_m_cells_for, stV, cellsOf, z1]
  | any lb us =>
    generalize heldV g = G at *
    simp [b_m_cells_for, eLR1, stV, cellsOf, ne, hr, er]
  | keep c lb us =>
    generalize heldV g = G at *
    simp [b_m_cells_for, eLR1, stV, cellsOf, ne, hr, er]
  | tell c k lb us =>
    obtain ⟨hc, hk0, hk1⟩ := hk c k lb us rfl
    have q1 := held_at hc
    have q2 : pDiv (.int (g.getD c 0)) (.int k) = some (.int (g.getD c 0 / k)) := by
      show (if CDiv (g.getD c 0) k then some (PV.int (g.getD c 0 / k)) else none) = _
      rw [if_pos ⟨hk0, by omega⟩]
    have q3 := modP (a := g.getD c 0 / k) hb0
    simp only [cellsOf]
    generalize g.getD c 0 = x at *
    generalize heldV g = G at *
    simp [b_m_cells_for, stV, ne, q1, q2, q3, z1]
  | fin => exact absurd rfl hf
  | _ => simp [NW.Sp.stops] at h
end K28

/-! N21: the law's contents behind a cell. -/
namespace K28
open PySem PySem.Spec L2 PVL NW
theorem lift_nn {many : Nat} {u : Up} (hu : UpOk many u) {x cell v : Int} (h0 : 0 ≤ x) (h : lift u x cell = some v) : 0 ≤ v := by
  cases u with
  | up c m =>
    simp only [lift] at h
    split at h
    · cases h
    · cases h; omega
  | down c =>
    simp only [lift] at h
    split at h
    · cases h
    · cases h; omega
  | add c m => simp only [lift] at h; cases h; exact Int.emod_nonneg _ (by have := hu.2.1; omega)
  | less c m => simp only [lift] at h; cases h; exact Int.emod_nonneg _ (by have := hu.2.1; omega)
  | roll c b m => simp only [lift] at h; cases h; exact Int.emod_nonneg _ (by have := hu.2.2.2.1; omega)
  | turn c m => simp only [lift] at h; cases h; exact Int.emod_nonneg _ (by have := hu.2.1; omega)
  | seen c => simp only [lift] at h; cases h; omega
def NN (h : List Int) : Prop := ∀ x ∈ h, 0 ≤ x
theorem nn_set {h : List Int} (hn : NN h) (c : Nat) {v : Int} (hv : 0 ≤ v) : NN (h.set c v) := by
  intro x hx
  rcases List.mem_or_eq_of_mem_set hx with hx | rfl
  · exact hn x hx
  · exact hv
theorem nn_at {h : List Int} (hn : NN h) {c : Nat} (hc : c < h.length) : 0 ≤ h.getD c 0 := by
  rw [List.getD_eq_getElem?_getD, List.getElem?_eq_getElem hc]
  exact hn _ (List.getElem_mem hc)
def bUp2 : SM := (sSeq (sAsg (eCall m__law_lifted (aCons (gRef 5) (aCons (gOwn (eR (rOp pIx (rVar 4) (rOp pIx (rVar 5) (rC (.int 1)))))) (aCons (gRef 3) (aNil))))) (tgN 6)) (sSeq (sIf (bE (eN (rOp pEq (rCl pLen (raCons (rVar 6) (raNil))) (rC (.int 0))))) (sRet (eLst (aNil))) (sNil)) (sSetIx 4 (rOp pIx (rVar 5) (rC (.int 1))) pSetL (eR (rOp pIx (rVar 6) (rC (.int 0)))))))
theorem upL2 (y0 y1 y2 : Option PV) (cell : Int) : ∀ (us : List Up) (h : List Int) (y5 y6 : Option PV), NN h → (∀ u ∈ us, UpOk h.length u) → ∃ z4 z5 z6 : Option PV,
    forL (tgN 5) bUp2 (us.map upV) [y0, y1, y2, some (.int cell), some (hL h), y5, y6] = (match upsF us cell h with
      | some h' => .next [y0, y1, y2, some (.int cell), some (hL h'), z5, z6]
      | none => .ret (.lst []) [y0, y1, y2, some (.int cell), z4, z5, z6])
  | [], h, y5, y6, _, _ => ⟨none, y5, y6, rfl⟩
  | u :: us, h, y5, y6, hn, hu => by
    have hu0 := hu u List.mem_cons_self
    have hc := up_lt hu0
    have e1 := up_at u
    have e2 := hL_at hc
    have hx0 := nn_at hn hc
    have e3 := lifted_r hu0 hx0 cell
    have i1 := up_imm u
    rw [List.map_cons, forL_at (e := [y0, y1, y2, some (.int cell), some (hL h), some (upV u), y6]) rfl]
    unfold upsF
    cases el : lift u (h.getD (Up.at u) 0) cell with
    | none =>
      rw [el] at e3
      refine ⟨some (hL h), some (upV u), some (.lst []), ?_⟩
      simp only [optL] at e3
      generalize h.getD (Up.at u) 0 = x at *
      generalize hL h = L1 at *
      generalize upV u = U at *
      simp [bUp2, e1, e2, e3, i1, loopK]
    | some v =>
      rw [el] at e3
      simp only [optL] at e3
      have e4 := hL_set hc v
      have hv := lift_nn hu0 hx0 el
      obtain ⟨z4, z5, z6, e5⟩ := upL2 y0 y1 y2 cell us (h.set (Up.at u) v) (some (upV u)) (some (.lst [.int v])) (nn_set hn _ hv) (fun x hx => by rw [List.length_set]; exact hu x (List.mem_cons_of_mem _ hx))
      refine ⟨z4, z5, z6, ?_⟩
      have eb : bUp2 [y0, y1, y2, some (.int cell), some (hL h), some (upV u), y6] = .next [y0, y1, y2, some (.int cell), some (hL (h.set (Up.at u) v)), some (upV u), some (.lst [.int v])] := by
        generalize h.getD (Up.at u) 0 = x at *
        generalize hL (h.set (Up.at u) v) = L2 at *
        generalize hL h = L1 at *
        generalize upV u = U at *
        simp [bUp2, e1, e2, e3, e4, i1]
      rw [eb, loopK_next]
      exact e5
def optT : Option (List Int) → List PV
  | none => []
  | some h => [heldV h]
def bCl : SM := (sIf (bAnd (bE (eN (rOp pEq (rOp pIx (rVar 0) (rC (.int 0))) (rC (.str "cell"))))) (bE (eN (rOp pNe (rVar 3) (rOp pIx (rVar 0) (rC (.int 1))))))) (sRet (eLst (aNil))) (sNil))
def bTl : SM := (sIf (bAnd (bE (eN (rOp pEq (rOp pIx (rVar 0) (rC (.int 0))) (rC (.str "tell"))))) (bE (eN (rOp pNe (rVar 3) (rOp pMod (rCl pInt (raCons (rOp pDiv (rOp pIx (rVar 4) (rOp pIx (rVar 0) (rC (.int 1)))) (rOp pIx (rVar 0) (rC (.int 2)))) (raNil))) (rVar 1)))))) (sRet (eLst (aNil))) (sNil))
theorem behind_is : b_m__law_behind = (sSeq (sAsg (eN (rCl pListP (raCons (rVar 2) (raNil)))) (tgN 4)) (sSeq bCl (sSeq bTl (sSeq bKeep (sSeq (sFor (itS (eR (rOp pIx (rVar 0) (rUn pNeg (rC (.int 1)))))) (tgN 5) bUp2) (sRet (eLst (aCons (gOwn (eN (rCl pTuple (raCons (rVar 4) (raNil))))) (aNil))))))))) := rfl
/-- can a step take this cell -/
def fits (s : NW.Sp) (base cell : Int) (g : List Int) : Bool := match s with
  | .cell v _ _ => decide (cell = v)
  | .tell c k _ _ => decide (cell = (g.getD c 0 / k) % base)
  | _ => true
def behF (s : NW.Sp) (base cell : Int) (g : List Int) : Option (List Int) := if fits s base cell g = true then cnt s base cell g else none
theorem behind_r {s : NW.Sp} (h : s.stops = true) (hf : s ≠ .fin) {base cell : Int} (hb0 : 0 < base) (hb : base < 100) (hc0 : 0 ≤ cell) {g : List Int} (hn : NN g) (hg : g.length ≤ 100) (hu : ∀ u ∈ upsOf s, UpOk g.length u) (hk : ∀ c lb us, s = .keep c lb us → c < g.length) (hk2 : ∀ c k lb us, s = .tell c k lb us → c < g.length ∧ 0 < k ∧ k < 10000) :
    m__law_behind [stV s, .int base, heldV g, .int cell] = .ok (.lst (optT (behF s base cell g))) [some (stV s), some (.int base), some (heldV g), some (.int cell)] := by
  have i1 := held_imm g
  have i2 := stV_imm s
  have k1 := kind_at s
  have e1 := ups_last s h hf
  have e2 : pListP [heldV g] = some (hL g) := by
    have : immL (g.map PV.int) = true := immL_map _ _ fun _ _ => rfl
    show (if immL (g.map PV.int) = true then some (PV.lst (g.map PV.int)) else none) = _
    rw [if_pos this]
    rfl
  have hlen : (begF s base cell g).length = g.length := by
    cases s <;> simp [begF]
  have hnb : NN (begF s base cell g) := by
    cases s with
    | keep c lb us => exact nn_set hn _ (by have := nn_at hn (hk c lb us rfl); have := Int.mul_nonneg this (by omega : 0 ≤ base); omega)
    | _ => exact hn
  obtain ⟨z4, z5, z6, e3⟩ := upL2 (some (stV s)) (some (.int base)) (some (heldV g)) cell (upsOf s) (begF s base cell g) none none hnb (by rw [hlen]; exact hu)
  have ne : ∀ z ∈ ([("cell" : Str), "any", "tell"] : List Str), z ≠ "keep" := by decide +kernel
  have ne2 : ("any" : Str) ≠ "cell" ∧ ("any" : Str) ≠ "tell" ∧ ("keep" : Str) ≠ "cell" ∧ ("keep" : Str) ≠ "tell" ∧ ("tell" : Str) ≠ "cell" ∧ ("cell" : Str) ≠ "tell" := by decide +kernel
  have hmid : bKeep
      [some (stV s), some (.int base), some (heldV g), some (.int cell), some (hL g), none, none] = .next [some (stV s), some (.int base), some (heldV g), some (.int cell), some (hL (begF s base cell g)), none, none] := by
    cases s with
    | keep c lb us =>
      have hc := hk c lb us rfl
      have q1 : pIx (stV (.keep c lb us)) (.int 1) = some (.int (c : Int)) := by simp [stV]
      have q2 := hL_at hc
      have q3 := mulSm (a := g.getD c 0) (Int.le_of_lt hb0) hb
      have q4 := hL_set hc (g.getD c 0 * base + cell)
      have k2 : kindS (.keep c lb us) = "keep" := rfl
      rw [k2] at k1
      have eb : begF (.keep c lb us) base cell g = g.set c (g.getD c 0 * base + cell) := rfl
      rw [eb]
      generalize g.getD c 0 = x at *
      generalize hL (g.set c (x * base + cell)) = L2 at *
      generalize hL g = L1 at *
      generalize stV (.keep c lb us) = SV at *
      simp [bKeep, k1, q1, q2, q3, q4]
    | cell v lb us =>
      have := ne "cell" (by simp)
      have k2 : kindS (.cell v lb us) = "cell" := rfl
      rw [k2] at k1
      generalize stV (.cell v lb us) = SV at *
      simp [bKeep, k1, this, begF]
    | any lb us =>
      have := ne "any" (by simp)
      have k2 : kindS (.any lb us) = "any" := rfl
      rw [k2] at k1
      generalize stV (.any lb us) = SV at *
      simp [bKeep, k1, this, begF]
    | tell c k lb us =>
      have := ne "tell" (by simp)
      have k2 : kindS (.tell c k lb us) = "tell" := rfl
      rw [k2] at k1
      generalize stV (.tell c k lb us) = SV at *
      simp [bKeep, k1, this, begF]
    | fin => exact absurd rfl hf
    | _ => simp [NW.Sp.stops] at h
  have hfit : (∃ z4 : Option PV, fits s base cell g = false ∧ (sSeq bCl bTl) [some (stV s), some (.int base), some (heldV g), some (.int cell), some (hL g), none, none] = .ret (.lst []) [some (stV s), some (.int base), some (heldV g), some (.int cell), z4, none, none]) ∨
      (fits s base cell g = true ∧ (sSeq bCl bTl) [some (stV s), some (.int base), some (heldV g), some (.int cell), some (hL g), none, none] = .next [some (stV s), some (.int base), some (heldV g), some (.int cell), some (hL g), none, none]) := by
    cases s with
    | cell v lb us =>
      by_cases hv : cell = v
      · refine .inr ⟨by simp [fits, hv], ?_⟩
        generalize hL g = L1 at *
        generalize heldV g = G at *
        simp [bCl, bTl, stV, ne2, hv]
      · refine .inl ⟨some (hL g), by simp [fits, hv], ?_⟩
        generalize hL g = L1 at *
        generalize heldV g = G at *
        simp [bCl, bTl, stV, ne2, hv]
    | any lb us =>
      refine .inr ⟨rfl, ?_⟩
      generalize hL g = L1 at *
      generalize heldV g = G at *
      simp [bCl, bTl, stV, ne2]
    | keep c lb us =>
      refine .inr ⟨rfl, ?_⟩
      generalize hL g = L1 at *
      generalize heldV g = G at *
      simp [bCl, bTl, stV, ne2]
    | tell c k lb us =>
      obtain ⟨hc, hk0, hk1⟩ := hk2 c k lb us rfl
      have q1 := hL_at hc
      have q2 : pDiv (.int (g.getD c 0)) (.int k) = some (.int (g.getD c 0 / k)) := by
        show (if CDiv (g.getD c 0) k then some (PV.int (g.getD c 0 / k)) else none) = _
        rw [if_pos ⟨hk0, by omega⟩]
      have q3 := modP (a := g.getD c 0 / k) hb0
      by_cases hv : cell = (g.getD c 0 / k) % base
      · refine .inr ⟨by simp only [fits, hv, decide_true], ?_⟩
        generalize g.getD c 0 = x at *
        generalize hL g = L1 at *
        generalize heldV g = G at *
        rw [hv]
        simp [bCl, bTl, stV, ne2, q1, q2, q3]
      · refine .inl ⟨some (hL g), by simp only [fits, hv, decide_false], ?_⟩
        generalize g.getD c 0 = x at *
        generalize hL g = L1 at *
        generalize heldV g = G at *
        simp [bCl, bTl, stV, ne2, q1, q2, q3, hv]
    | fin => exact absurd rfl hf
    | _ => simp [NW.Sp.stops] at h
  have hui := ups_imm (upsOf s)
  unfold m__law_behind behF cnt
  rw [fnM_at rfl, behind_is]
  have e1' : pIx (stV s) (.int (-1)) = some (.tup ((upsOf s).map upV)) := e1
  clear e1
  have hseq : ∀ (a b c : SM) (e : PEnv), sSeq a (sSeq b c) e = sSeq (sSeq a b) c e := by
    intro a b c e
    simp only [sSeq_ap]
    cases a e <;> rfl
  rw [sSeq_ap]
  have e0 : sAsg (eN (rCl pListP (raCons (rVar 2) (raNil)))) (tgN 4) [some (stV s), some (.int base), some (heldV g), some (.int cell), none, none, none] = .next [some (stV s), some (.int base), some (heldV g), some (.int cell), some (hL g), none, none] := by
    simp [e2]
  have e0' : sAsg (eN (rCl pListP (raCons (rVar 2) (raNil)))) (tgN 4) ([stV s, .int base, heldV g, .int cell].map some ++ List.replicate (7 - 4) none) = .next [some (stV s), some (.int base), some (heldV g), some (.int cell), some (hL g), none, none] := e0
  rw [e0', andThen_next, hseq, sSeq_ap]
  rcases hfit with ⟨q4, hf1, hf2⟩ | ⟨hf1, hf2⟩
  · rw [hf2, hf1]
    simp [optT]
  · rw [hf2, hf1, andThen_next]
    simp only [if_true]
    cases ec : upsF (upsOf s) cell (begF s base cell g) with
    | none =>
      rw [ec] at e3
      simp only at e3
      generalize (upsOf s).map upV = US at *
      generalize hL (begF s base cell g) = L2 at *
      generalize hLg : hL g = L1 at *
      have hn : L1.imm = false := by rw [← hLg]; rfl
      generalize heldV g = G at *
      generalize stV s = SV at *
      simp [hmid, e1', hui, e3, i1, i2, hn, optT]
    | some g' =>
      rw [ec] at e3
      simp only at e3
      have hgi : immL (g'.map PV.int) = true := immL_map _ _ fun _ _ => rfl
      have et : hL g' = .lst (g'.map .int) := rfl
      have eg : heldV g' = .tup (g'.map .int) := rfl
      have z1 : 1 ≤ sizeLine := le_size (by omega)
      rw [et] at e3
      simp only [optT]
      rw [eg]
      generalize (upsOf s).map upV = US at *
      generalize hL (begF s base cell g) = L2 at *
      generalize hLg : hL g = L1 at *
      have hn : L1.imm = false := by rw [← hLg]; rfl
      generalize heldV g = G at *
      generalize stV s = SV at *
      generalize g'.map PV.int = GV at *
      simp [hmid, e1', hui, e3, i1, i2, hn, hgi, z1]
end K28

/-! N22: moves. -/
namespace NW
variable {α : Type} (f : α → Bh α)
theorem ways_le : ∀ (n : Nat) (a : α), (ways f n a).length ≤ size f n a
  | 0, _ => Nat.le_refl _
  | n + 1, a => by
    rw [ways, size]
    cases e : f a with
    | fin => simp
    | fork ts =>
      have hz : ∀ (ts : List α) (i : Nat), (((ts.zipIdx i).map fun t => (ways f n t.1).map fun w => ((t.2 :: w.1, w.2) : List Nat × α)).flatten).length ≤ (ts.map fun t => size f n t).sum := by
        intro ts
        induction ts with
        | nil => intro i; exact Nat.le_refl _
        | cons t ts ih =>
          intro i
          have h1 := ih (i + 1)
          have h2 := ways_le n t
          rw [List.zipIdx_cons, List.map_cons, List.flatten_cons, List.length_append, List.length_map, List.map_cons, List.sum_cons]
          show (ways f n t).length + _ ≤ _
          omega
      have := hz ts 0
      simp only
      omega
    | pass ts =>
      have hz : ∀ (ts : List α), ((ts.map fun t => ways f n t).flatten).length ≤ (ts.map fun t => size f n t).sum := by
        intro ts
        induction ts with
        | nil => exact Nat.le_refl _
        | cons t ts ih =>
          have h2 := ways_le n t
          rw [List.map_cons, List.flatten_cons, List.length_append, List.map_cons, List.sum_cons]
          omega
      have := hz ts
      simp only
      omega
end NW
namespace K28
open PySem PySem.Spec L2 PVL NW
def tri (cell : Int) (w : List Nat × NW.Pl) : PV := .tup [.int cell, chV w.1, plV w.2]
theorem tri_imm (cell : Int) (w : List Nat × NW.Pl) : (tri cell w).imm = true := by
  unfold tri
  rw [imm_tup]
  simp [immL, ch_imm, pl_imm]
def wsOf (ss : List NW.Sp) (q : Nat) (g : List Int) : List (List Nat × NW.Pl) := ways (beh ss) (2 * ss.length) (q, g)
def trs (ss : List NW.Sp) (q : Nat) (cell : Int) : Option (List Int) → List PV
  | none => []
  | some g' => (wsOf ss (q + 1) g').map (tri cell)
structure TkOk (s : NW.Sp) (many : Nat) (base : Int) : Prop where
  ups : ∀ u ∈ upsOf s, UpOk many u
  keep : ∀ c lb us, s = .keep c lb us → c < many
  tell : ∀ c k lb us, s = .tell c k lb us → c < many ∧ 0 < k ∧ k < 10000
  cell : ∀ v lb us, s = .cell v lb us → 0 ≤ v ∧ v < base
theorem ups_len {cell : Int} : ∀ {us : List Up} {h h' : List Int}, upsF us cell h = some h' → h'.length = h.length
  | [], h, h', e => by cases e; rfl
  | u :: us, h, h', e => by
    unfold upsF at e
    cases el : lift u (h.getD (Up.at u) 0) cell with
    | none => rw [el] at e; cases e
    | some v => rw [el] at e; rw [ups_len e, List.length_set]
theorem cnt_len {s : NW.Sp} {base cell : Int} {h h' : List Int} (e : cnt s base cell h = some h') : h'.length = h.length := by
  rw [ups_len e]
  cases s <;> simp [begF]
structure AllOk (ss : List NW.Sp) (many : Nat) (base : Int) (w : Nat → Nat) : Prop where
  so : SsOk ss many
  wt : Wt ss w
  w0 : w 0 ≤ 3
  len : ss.length ≤ 16
  base0 : 0 < base
  base1 : base < 100
  tk : ∀ (q : Nat) (s : NW.Sp), ss[q]? = some s → s.stops = true → s ≠ .fin → TkOk s many base ∧ q + 1 < ss.length
theorem ws_len {ss : List NW.Sp} {many : Nat} {base : Int} {w : Nat → Nat} (ha : AllOk ss many base w) {q : Nat} (hq : q < ss.length) (g : List Int) : (wsOf ss q g).length ≤ 1728 :=
  Nat.le_trans (ways_le _ _ _) (Nat.le_trans (row_size ha.so.row ha.wt _ q g _ (Nat.le_refl _) hq) (bd_most ha.wt ha.w0 ha.len q))
def bMIn : SM := (sExpr (eMeth "list" 4 pAppend (aCons (gOwn (eTup (aCons (gOwn (eVar 5)) (aCons (gOwn (eVar 9)) (aCons (gOwn (eVar 10)) (aNil)))))) (aNil))))
def bMOut : SM := (sSeq (sAsg (eCall m_counted (aCons (gRef 3) (aCons (gRef 1) (aCons (gRef 7) (aCons (gRef 5) (aNil)))))) (tgN 8)) (sIf (bE (eN (rOp pNotN (rVar 8) (rC .non)))) (sFor (itS (eCall m_settle (aCons (gRef 0) (aCons (gOwn (eN (rOp pAdd (rVar 6) (rC (.int 1))))) (aCons (gRef 8) (aNil)))))) (tgT 2 (tgsCons (tgN 9) (tgsCons (tgN 10) (tgsNil)))) bMIn) (sNil)))
theorem moves_is : b_m_moves = sSeq (sAsg (eVar 2) (tgT 2 (tgsCons (tgN 6) (tgsCons (tgN 7) (tgsNil))))) (sSeq (sAsg (eR (rOp pIx (rVar 0) (rVar 6))) (tgN 3)) (sSeq (sAsg (eLst (aNil)) (tgN 4)) (sSeq (sIf (bE (eN (rOp pEq (rOp pIx (rVar 3) (rC (.int 0))) (rC (.str "end"))))) (sRet (eTup (aNil))) (sNil)) (sSeq (sFor (itS (eCall m_cells_for (aCons (gRef 3) (aCons (gRef 1) (aCons (gRef 7) (aNil)))))) (tgN 5) bMOut) (sRet (eN (rCl pTuple (raCons (rVar 4) (raNil))))))))) := rfl
theorem minL (cell : Int) (y0 y1 y2 y3 y6 y7 y8 : Option PV) : ∀ (ws : List (List Nat × NW.Pl)) (acc : List PV) (y9 y10 : Option PV), acc.length + ws.length ≤ 900000 → ∃ z9 z10 : Option PV,
    forL (tgT 2 (tgsCons (tgN 9) (tgsCons (tgN 10) (tgsNil)))) bMIn (ws.map fdV) [y0, y1, y2, y3, some (.lst acc), some (.int cell), y6, y7, y8, y9, y10] = .next [y0, y1, y2, y3, some (.lst (acc ++ ws.map (tri cell))), some (.int cell), y6, y7, y8, z9, z10]
  | [], acc, y9, y10, _ => ⟨y9, y10, by simp⟩
  | w :: ws, acc, y9, y10, h => by
    simp only [List.length_cons] at h
    obtain ⟨z9, z10, e⟩ := minL cell y0 y1 y2 y3 y6 y7 y8 ws (acc ++ [tri cell w]) (some (chV w.1)) (some (plV w.2)) (by rw [List.length_append, List.length_singleton]; omega)
    refine ⟨z9, z10, ?_⟩
    have i1 := ch_imm w.1
    have i2 := pl_imm w.2
    have z3 : 3 ≤ sizeLine := le_size (by omega)
    have hz : acc.length < sizeLine := lt_size (by omega)
    have ht : (tgT 2 (tgsCons (tgN 9) (tgsCons (tgN 10) (tgsNil)))) (fdV w) [y0, y1, y2, y3, some (.lst acc), some (.int cell), y6, y7, y8, y9, y10] = some [y0, y1, y2, y3, some (.lst acc), some (.int cell), y6, y7, y8, some (chV w.1), some (plV w.2)] := by
      unfold fdV
      generalize chV w.1 = C at *
      generalize plV w.2 = P at *
      simp [i1, i2]
    have hb : bMIn [y0, y1, y2, y3, some (.lst acc), some (.int cell), y6, y7, y8, some (chV w.1), some (plV w.2)] = .next [y0, y1, y2, y3, some (.lst (acc ++ [tri cell w])), some (.int cell), y6, y7, y8, some (chV w.1), some (plV w.2)] := by
      unfold tri
      generalize chV w.1 = C at *
      generalize plV w.2 = P at *
      simp [bMIn, i1, i2, z3, hz]
    rw [List.map_cons, forL_at ht, hb, loopK_next, e]
    simp
theorem moutL {ss : List NW.Sp} {many : Nat} {base : Int} {w : Nat → Nat} (ha : AllOk ss many base w) {q : Nat} {s : NW.Sp} (hs : ss[q]? = some s) (h1 : s.stops = true) (h2 : s ≠ .fin) {g : List Int} (hg : g.length = many) (y2 : Option PV) : ∀ (cells : List Int) (acc : List PV) (y5 y8 y9 y10 : Option PV), acc.length + 1728 * cells.length ≤ 900000 → ∃ z5 z8 z9 z10 : Option PV,
    forL (tgN 5) bMOut (cells.map .int) [some (stepsV ss), some (.int base), y2, some (stV s), some (.lst acc), y5, some (.int (q : Int)), some (heldV g), y8, y9, y10] = .next [some (stepsV ss), some (.int base), y2, some (stV s), some (.lst (acc ++ (cells.map fun cell => trs ss q cell (cnt s base cell g)).flatten)), z5, some (.int (q : Int)), some (heldV g), z8, z9, z10]
  | [], acc, y5, y8, y9, y10, _ => ⟨y5, y8, y9, y10, by simp⟩
  | cell :: cells, acc, y5, y8, y9, y10, hl => by
    simp only [List.length_cons] at hl
    obtain ⟨ht, hq⟩ := ha.tk q s hs h1 h2
    have hm := ha.so.many
    have e1 := counted_r (cell := cell) h1 h2 (Int.le_of_lt ha.base0) ha.base1 (g := g) (by omega) (by rw [hg]; exact ht.ups) (by rw [hg]; exact ht.keep)
    have i1 := held_imm g
    have i2 := stV_imm s
    have i4 := steps_imm ss
    have et : tgN 5 (.int cell) [some (stepsV ss), some (.int base), y2, some (stV s), some (.lst acc), y5, some (.int (q : Int)), some (heldV g), y8, y9, y10] = some [some (stepsV ss), some (.int base), y2, some (stV s), some (.lst acc), some (.int cell), some (.int (q : Int)), some (heldV g), y8, y9, y10] := rfl
    rw [List.map_cons, forL_at et]
    have hb : ∃ z8 z9 z10 : Option PV, bMOut [some (stepsV ss), some (.int base), y2, some (stV s), some (.lst acc), some (.int cell), some (.int (q : Int)), some (heldV g), y8, y9, y10] = .next [some (stepsV ss), some (.int base), y2, some (stV s), some (.lst (acc ++ trs ss q cell (cnt s base cell g))), some (.int cell), some (.int (q : Int)), some (heldV g), z8, z9, z10] ∧ (trs ss q cell (cnt s base cell g)).length ≤ 1728 := by
      cases ec : cnt s base cell g with
      | none =>
        rw [ec] at e1
        refine ⟨some .non, y9, y10, ?_, by simp [trs]⟩
        simp only [optH] at e1
        simp only [trs, List.append_nil]
        generalize stepsV ss = SS at *
        generalize stV s = SV at *
        generalize heldV g = G at *
        simp [bMOut, e1, i1, i2, notN_n]
      | some g' =>
        rw [ec] at e1
        simp only [optH] at e1
        have hg' : g'.length = many := by rw [cnt_len ec, hg]
        have hwl := ws_len ha hq g'
        have e2 := settle_r ha.so ha.wt ha.w0 ha.len hq hg'
        have e2' : m_settle [stepsV ss, .int ((q + 1 : Nat) : Int), heldV g'] = .ok (.tup ((wsOf ss (q + 1) g').map fdV)) [some (stepsV ss), some (.int ((q + 1 : Nat) : Int)), some (heldV g')] := e2
        clear e2
        have hq1 : ((q + 1 : Nat) : Int) = (q : Int) + 1 := by omega
        rw [hq1] at e2'
        obtain ⟨z9, z10, e3⟩ := minL cell (some (stepsV ss)) (some (.int base)) y2 (some (stV s)) (some (.int (q : Int))) (some (heldV g)) (some (heldV g')) (wsOf ss (q + 1) g') acc y9 y10 (by omega)
        refine ⟨some (heldV g'), z9, z10, ?_, by simp only [trs, List.length_map]; exact hwl⟩
        have i5 := held_imm g'
        have hfd : immL ((wsOf ss (q + 1) g').map fdV) = true := immL_map _ _ fun x _ => by
          unfold fdV
          rw [imm_tup]
          simp [immL, ch_imm, pl_imm]
        have hnn : pNotN (heldV g') .non = some (.bl true) := notN_t _
        simp only [trs]
        generalize (wsOf ss (q + 1) g').map fdV = WS at *
        generalize (wsOf ss (q + 1) g').map (tri cell) = WT at *
        generalize stepsV ss = SS at *
        generalize stV s = SV at *
        generalize heldV g' = G' at *
        generalize heldV g = G at *
        simp [bMOut, e1, e2', e3, i1, i2, i4, i5, hnn, hfd]
    obtain ⟨z8, z9, z10, hb, hlen⟩ := hb
    obtain ⟨v5, v8, v9, v10, e4⟩ := moutL ha hs h1 h2 hg y2 cells (acc ++ trs ss q cell (cnt s base cell g)) (some (.int cell)) z8 z9 z10 (by rw [List.length_append]; omega)
    refine ⟨v5, v8, v9, v10, ?_⟩
    rw [hb, loopK_next, e4]
    simp
def standV (q : Nat) (g : List Int) : PV := .tup [.int (q : Int), heldV g]
def movesOf (ss : List NW.Sp) (s : NW.Sp) (base : Int) (q : Nat) (g : List Int) : List PV := ((cellsOf s base g).map fun cell => trs ss q cell (cnt s base cell g)).flatten
theorem trs_imm (ss : List NW.Sp) (q : Nat) (cell : Int) (o : Option (List Int)) : immL (trs ss q cell o) = true := by
  cases o with
  | none => rfl
  | some g => exact immL_map _ _ fun x _ => tri_imm cell x
theorem flat_imm (l : List (List PV)) (h : ∀ x ∈ l, immL x = true) : immL l.flatten = true := immL_all fun x hx => by
  obtain ⟨y, hy, hx⟩ := List.mem_flatten.mp hx
  exact immL_mem (h y hy) x hx
theorem cells_len {s : NW.Sp} {base : Int} (h1 : base < 100) (g : List Int) : (cellsOf s base g).length ≤ 100 := by
  cases s <;> simp [cellsOf] <;> omega
theorem moves_r {ss : List NW.Sp} {many : Nat} {base : Int} {w : Nat → Nat} (ha : AllOk ss many base w) {q : Nat} {s : NW.Sp} (hs : ss[q]? = some s) (h1 : s.stops = true) (h2 : s ≠ .fin) {g : List Int} (hg : g.length = many) :
    m_moves [stepsV ss, .int base, standV q g] = .ok (.tup (movesOf ss s base q g)) [some (stepsV ss), some (.int base), some (standV q g)] := by
  obtain ⟨ht, hq⟩ := ha.tk q s hs h1 h2
  have i1 := held_imm g
  have i2 := stV_imm s
  have i4 := steps_imm ss
  have e1 := step_at hs
  have k1 := kind_at s
  have k2 : kindS s ≠ "end" := by
    have h : ∀ z ∈ ([("cell" : Str), "any", "keep", "tell"] : List Str), z ≠ "end" := by decide +kernel
    cases s with
    | fin => exact absurd rfl h2
    | cell v lb us => exact h _ (by simp [kindS])
    | any lb us => exact h _ (by simp [kindS])
    | keep c lb us => exact h _ (by simp [kindS])
    | tell c k lb us => exact h _ (by simp [kindS])
    | _ => simp [NW.Sp.stops] at h1
  have e2 := cells_r h1 h2 ha.base0 ha.base1 (g := g) (by rw [hg]; exact ht.tell)
  obtain ⟨z5, z8, z9, z10, e3⟩ := moutL ha hs h1 h2 hg (some (standV q g)) (cellsOf s base g) [] none none none none (by have := cells_len (s := s) ha.base1 g; simp only [List.length_nil]; omega)
  rw [List.nil_append] at e3
  have hci : immL ((cellsOf s base g).map PV.int) = true := immL_map _ _ fun _ _ => rfl
  have e3' : forL (tgN 5) bMOut ((cellsOf s base g).map .int) [some (stepsV ss), some (.int base), some (standV q g), some (stV s), some (.lst []), none, some (.int (q : Int)), some (heldV g), none, none, none] = .next [some (stepsV ss), some (.int base), some (standV q g), some (stV s), some (.lst (movesOf ss s base q g)), z5, some (.int (q : Int)), some (heldV g), z8, z9, z10] := e3
  clear e3
  have hmi : immL (movesOf ss s base q g) = true := flat_imm _ fun x hx => by
    obtain ⟨c, _, rfl⟩ := List.mem_map.mp hx
    exact trs_imm _ _ _ _
  unfold m_moves
  rw [fnM_at rfl, moves_is]
  unfold standV at e3' ⊢
  generalize movesOf ss s base q g = MV at *
  generalize (cellsOf s base g).map PV.int = CL at *
  generalize stepsV ss = SS at *
  generalize stV s = SV at *
  generalize heldV g = G at *
  generalize kindS s = KS at *
  simp [e1, e2, e3', i1, i2, i4, k1, k2, hci, hmi]
theorem moves_fin {ss : List NW.Sp} {base : Int} {q : Nat} (hs : ss[q]? = some .fin) (g : List Int) : m_moves [stepsV ss, .int base, standV q g] = .ok (.tup []) [some (stepsV ss), some (.int base), some (standV q g)] := by
  have i1 := held_imm g
  have i2 := stV_imm .fin
  have i4 := steps_imm ss
  have e1 := step_at hs
  have k1 := kind_at .fin
  have k2 : kindS .fin = "end" := rfl
  rw [k2] at k1
  unfold m_moves
  rw [fnM_at rfl, moves_is]
  have hst : standV q g = .tup [.int (q : Int), heldV g] := rfl
  rw [hst]
  generalize stepsV ss = SS at *
  generalize stV .fin = SV at *
  generalize heldV g = G at *
  simp [e1, i1, i2, i4, k1]
end K28

/-! N23: what is due. -/
namespace K28
open PySem PySem.Spec L2 PVL NW
def mTr : EM := (eTup (aCons (gOwn (eVar 5)) (aCons (gOwn (eR (rOp pIx (rVar 7) (rC (.int 0))))) (aCons (gOwn (eR (rOp pIx (rVar 7) (rC (.int 1))))) (aNil)))))
def bDIn : SM := (sExpr (eMethB "list" 4 pExtend (aCons (gOwn (eLC (itS (eCall m__law_ways (aCons (gRef 0) (aCons (gOwn (eN (rOp pAdd (rVar 2) (rC (.int 1))))) (aCons (gRef 6) (aNil)))))) [7] (tgN 7) (bYes) mTr)) (aNil))))
def bDOut : SM := (sIf (bE (eN (rOp pNe (rOp pIx (rOp pIx (rVar 0) (rVar 2)) (rC (.int 0))) (rC (.str "end"))))) (sFor (itS (eCall m__law_behind (aCons (gOwn (eR (rOp pIx (rVar 0) (rVar 2)))) (aCons (gRef 1) (aCons (gRef 3) (aCons (gRef 5) (aNil))))))) (tgN 6) bDIn) (sNil))
theorem due_is : b_m__law_due = sSeq (sAsg (eLst (aNil)) (tgN 4)) (sSeq (sFor (itR1 (aCons (gRef 1) (aNil))) (tgN 5) bDOut) (sRet (eN (rCl pTuple (raCons (rVar 4) (raNil)))))) := rfl
theorem mTr_r (cell : Int) (w : List Nat × NW.Pl) (y0 y1 y2 y3 y4 y6 : Option PV) : mTr [y0, y1, y2, y3, y4, some (.int cell), y6, some (fdV w)] = .ok (tri cell w) [y0, y1, y2, y3, y4, some (.int cell), y6, some (fdV w)] := by
  have i1 := ch_imm w.1
  have i2 := pl_imm w.2
  have z3 : 3 ≤ sizeLine := le_size (by omega)
  unfold fdV tri
  generalize chV w.1 = C at *
  generalize plV w.2 = P at *
  simp [mTr, i1, i2, z3]
theorem trL (cell : Int) (y0 y1 y2 y3 y4 y6 : Option PV) : ∀ (ws : List (List Nat × NW.Pl)) (acc : List PV), acc.length + ws.length ≤ 900000 →
    lcL [7] (tgN 7) bYes mTr (ws.map fdV) acc [y0, y1, y2, y3, y4, some (.int cell), y6, none] = .ok (.lst (acc ++ ws.map (tri cell))) [y0, y1, y2, y3, y4, some (.int cell), y6, none]
  | [], acc, _ => by simp
  | w :: ws, acc, h => by
    simp only [List.length_cons] at h
    have ih := trL cell y0 y1 y2 y3 y4 y6 ws (acc ++ [tri cell w]) (by rw [List.length_append, List.length_singleton]; omega)
    have et : tgN 7 (fdV w) [y0, y1, y2, y3, y4, some (.int cell), y6, none] = some [y0, y1, y2, y3, y4, some (.int cell), y6, some (fdV w)] := rfl
    have hz : acc.length < sizeLine := lt_size (by omega)
    rw [List.map_cons, lcL_cons, et]
    simp only [bYes_ap, if_true, mTr_r, if_pos hz]
    show lcL [7] (tgN 7) bYes mTr _ _ [y0, y1, y2, y3, y4, some (.int cell), y6, none] = _
    rw [ih]
    simp
theorem kind_end {s : NW.Sp} (h1 : s.stops = true) (h2 : s ≠ .fin) : kindS s ≠ "end" := by
  have h : ∀ z ∈ ([("cell" : Str), "any", "keep", "tell"] : List Str), z ≠ "end" := by decide +kernel
  cases s with
  | fin => exact absurd rfl h2
  | cell v lb us => exact h _ (by simp [kindS])
  | any lb us => exact h _ (by simp [kindS])
  | keep c lb us => exact h _ (by simp [kindS])
  | tell c k lb us => exact h _ (by simp [kindS])
  | _ => simp [NW.Sp.stops] at h1
theorem dout_r {ss : List NW.Sp} {many : Nat} {base : Int} {w : Nat → Nat} (ha : AllOk ss many base w) {q : Nat} {s : NW.Sp} (hs : ss[q]? = some s) (h1 : s.stops = true) (h2 : s ≠ .fin) {g : List Int} (hg : g.length = many) (hn : NN g) {cell : Int} (hc : 0 ≤ cell) (acc : List PV) (hl : acc.length ≤ 800000) (y6 : Option PV) : ∃ z6 : Option PV,
    bDOut [some (stepsV ss), some (.int base), some (.int (q : Int)), some (heldV g), some (.lst acc), some (.int cell), y6, none] = .next [some (stepsV ss), some (.int base), some (.int (q : Int)), some (heldV g), some (.lst (acc ++ trs ss q cell (behF s base cell g))), some (.int cell), z6, none] ∧ (trs ss q cell (behF s base cell g)).length ≤ 1728 := by
  obtain ⟨ht, hq⟩ := ha.tk q s hs h1 h2
  have hm := ha.so.many
  have i1 := held_imm g
  have i2 := stV_imm s
  have i4 := steps_imm ss
  have e1 := step_at hs
  have k1 := kind_at s
  have k2 := kind_end h1 h2
  have e2 := behind_r (cell := cell) h1 h2 ha.base0 ha.base1 hc hn (by omega) (by rw [hg]; exact ht.ups) (by rw [hg]; exact ht.keep) (by rw [hg]; exact ht.tell)
  cases ec : behF s base cell g with
  | none =>
    rw [ec] at e2
    refine ⟨y6, ?_, by simp [trs]⟩
    simp only [optT] at e2
    simp only [trs, List.append_nil]
    generalize stepsV ss = SS at *
    generalize stV s = SV at *
    generalize heldV g = G at *
    generalize kindS s = KS at *
    simp [bDOut, e1, e2, i1, i2, i4, k1, k2]
  | some g' =>
    rw [ec] at e2
    simp only [optT] at e2
    have hg' : g'.length = many := by
      unfold behF at ec
      split at ec
      · rw [cnt_len ec, hg]
      · cases ec
    have hwl := ws_len ha hq g'
    have e3 := lways_r ha.so ha.wt ha.w0 ha.len hq hg'
    have e3' : m__law_ways [stepsV ss, .int ((q + 1 : Nat) : Int), heldV g'] = .ok (.tup ((wsOf ss (q + 1) g').map fdV)) [some (stepsV ss), some (.int ((q + 1 : Nat) : Int)), some (heldV g')] := e3
    clear e3
    have hq1 : ((q + 1 : Nat) : Int) = (q : Int) + 1 := by omega
    rw [hq1] at e3'
    have e4 := trL cell (some (stepsV ss)) (some (.int base)) (some (.int (q : Int))) (some (heldV g)) (some (.lst acc)) (some (heldV g')) (wsOf ss (q + 1) g') [] (by simp only [List.length_nil]; omega)
    rw [List.nil_append] at e4
    have i5 := held_imm g'
    have hfd : immL ((wsOf ss (q + 1) g').map fdV) = true := immL_map _ _ fun x _ => by
      unfold fdV
      rw [imm_tup]
      simp [immL, ch_imm, pl_imm]
    have hti : immL ((wsOf ss (q + 1) g').map (tri cell)) = true := immL_map _ _ fun x _ => tri_imm cell x
    have hz : acc.length + ((wsOf ss (q + 1) g').map (tri cell)).length ≤ sizeLine := le_size (by rw [List.length_map]; omega)
    refine ⟨some (heldV g'), ?_, by simp only [trs, List.length_map]; exact hwl⟩
    simp only [trs]
    have hb : bDIn [some (stepsV ss), some (.int base), some (.int (q : Int)), some (heldV g), some (.lst acc), some (.int cell), some (heldV g'), none] = .next [some (stepsV ss), some (.int base), some (.int (q : Int)), some (heldV g), some (.lst (acc ++ (wsOf ss (q + 1) g').map (tri cell))), some (.int cell), some (heldV g'), none] := by
      generalize (wsOf ss (q + 1) g').map fdV = WS at *
      generalize (wsOf ss (q + 1) g').map (tri cell) = WT at *
      generalize stepsV ss = SS at *
      generalize stV s = SV at *
      generalize heldV g' = G' at *
      generalize heldV g = G at *
      simp [bDIn, e3', e4, i1, i2, i4, i5, hfd, hti, hz]
    generalize (wsOf ss (q + 1) g').map (tri cell) = WT at *
    generalize stepsV ss = SS at *
    generalize stV s = SV at *
    generalize heldV g' = G' at *
    generalize heldV g = G at *
    generalize kindS s = KS at *
    simp [bDOut, forL_cons, e1, e2, i1, i2, i4, i5, k1, k2, hb]
theorem doutL {ss : List NW.Sp} {many : Nat} {base : Int} {w : Nat → Nat} (ha : AllOk ss many base w) {q : Nat} {s : NW.Sp} (hs : ss[q]? = some s) (h1 : s.stops = true) (h2 : s ≠ .fin) {g : List Int} (hg : g.length = many) (hn : NN g) : ∀ (cells : List Int) (acc : List PV) (y5 y6 : Option PV), (∀ c ∈ cells, 0 ≤ c) → acc.length + 1728 * cells.length ≤ 800000 → ∃ z5 z6 : Option PV,
    forL (tgN 5) bDOut (cells.map .int) [some (stepsV ss), some (.int base), some (.int (q : Int)), some (heldV g), some (.lst acc), y5, y6, none] = .next [some (stepsV ss), some (.int base), some (.int (q : Int)), some (heldV g), some (.lst (acc ++ (cells.map fun cell => trs ss q cell (behF s base cell g)).flatten)), z5, z6, none]
  | [], acc, y5, y6, _, _ => ⟨y5, y6, by simp⟩
  | cell :: cells, acc, y5, y6, hc, hl => by
    simp only [List.length_cons] at hl
    have et : tgN 5 (.int cell) [some (stepsV ss), some (.int base), some (.int (q : Int)), some (heldV g), some (.lst acc), y5, y6, none] = some [some (stepsV ss), some (.int base), some (.int (q : Int)), some (heldV g), some (.lst acc), some (.int cell), y6, none] := rfl
    obtain ⟨z6, hb, hlen⟩ := dout_r ha hs h1 h2 hg hn (hc cell List.mem_cons_self) acc (by omega) y6
    obtain ⟨v5, v6, e⟩ := doutL ha hs h1 h2 hg hn cells (acc ++ trs ss q cell (behF s base cell g)) (some (.int cell)) z6 (fun c hm => hc c (List.mem_cons_of_mem _ hm)) (by rw [List.length_append]; omega)
    refine ⟨v5, v6, ?_⟩
    rw [List.map_cons, forL_at et, hb, loopK_next, e]
    simp
def natsI (n : Nat) : List Int := (List.range n).map fun i => ((i : Nat) : Int)
theorem rng_natsI (n : Nat) : rngL 0 n = (natsI n).map PV.int := by
  unfold rngL natsI
  rw [List.map_map]
  refine List.map_congr_left fun i _ => ?_
  show PV.int (0 + (i : Nat)) = PV.int (i : Nat)
  rw [Int.zero_add]
def dueOf (ss : List NW.Sp) (s : NW.Sp) (base : Int) (q : Nat) (g : List Int) : List PV := ((natsI base.toNat).map fun cell => trs ss q cell (behF s base cell g)).flatten
theorem flat_one (F : Int → List PV) (v : Int) : ∀ n : Nat, ((natsI n).map fun c => if c = v then F c else []).flatten = if 0 ≤ v ∧ v < n then F v else []
  | 0 => by
    rw [if_neg (by omega)]; rfl
  | n + 1 => by
    have ih := flat_one F v n
    have e : natsI (n + 1) = natsI n ++ [(n : Int)] := by
      unfold natsI
      rw [List.range_succ, List.map_append]
      rfl
    rw [e, List.map_append, List.flatten_append, ih]
    simp only [List.map_cons, List.map_nil, List.flatten_cons, List.flatten_nil, List.append_nil]
    by_cases h1 : (n : Int) = v
    · rw [if_neg (by omega), if_pos h1, if_pos (by omega), h1, List.nil_append]
    · rw [if_neg h1, List.append_nil]
      by_cases h2 : 0 ≤ v ∧ v < n
      · rw [if_pos h2, if_pos (by omega)]
      · rw [if_neg h2, if_neg (by omega)]
theorem due_moves {ss : List NW.Sp} {many : Nat} {base : Int} {s : NW.Sp} (hb : 0 < base) (ht : TkOk s many base) (q : Nat) (g : List Int) : dueOf ss s base q g = movesOf ss s base q g := by
  have one : ∀ v : Int, 0 ≤ v → v < base → (∀ c, behF s base c g = if c = v then cnt s base c g else none) → cellsOf s base g = [v] → dueOf ss s base q g = movesOf ss s base q g := by
    intro v h0 h1 hf hc
    unfold dueOf movesOf
    rw [hc]
    have e : (natsI base.toNat).map (fun cell => trs ss q cell (behF s base cell g)) = (natsI base.toNat).map fun c => if c = v then trs ss q c (cnt s base c g) else [] := by
      refine List.map_congr_left fun c _ => ?_
      rw [hf]
      split <;> rfl
    rw [e, flat_one (fun c => trs ss q c (cnt s base c g)) v, if_pos (by omega)]
    simp
  cases s with
  | cell v lb us =>
    obtain ⟨h0, h1⟩ := ht.cell v lb us rfl
    exact one v h0 h1 (fun c => by unfold behF fits; simp) rfl
  | tell c k lb us =>
    exact one ((g.getD c 0 / k) % base) (Int.emod_nonneg _ (by omega)) (Int.emod_lt_of_pos _ hb) (fun c' => by unfold behF fits; simp) rfl
  | _ => rfl
theorem due_r {ss : List NW.Sp} {many : Nat} {base : Int} {w : Nat → Nat} (ha : AllOk ss many base w) {q : Nat} {s : NW.Sp} (hs : ss[q]? = some s) (h1 : s.stops = true) (h2 : s ≠ .fin) {g : List Int} (hg : g.length = many) (hn : NN g) :
    m__law_due [stepsV ss, .int base, .int (q : Int), heldV g] = .ok (.tup (movesOf ss s base q g)) [some (stepsV ss), some (.int base), some (.int (q : Int)), some (heldV g)] := by
  obtain ⟨ht, hq⟩ := ha.tk q s hs h1 h2
  have i1 := held_imm g
  have i4 := steps_imm ss
  obtain ⟨z5, z6, e3⟩ := doutL ha hs h1 h2 hg hn (natsI base.toNat) [] none none (fun c hc => by
    unfold natsI at hc
    obtain ⟨i, _, rfl⟩ := List.mem_map.mp hc
    omega) (by
    have := ha.base1
    unfold natsI
    rw [List.length_map, List.length_range, List.length_nil]; omega)
  rw [List.nil_append] at e3
  have e3' : forL (tgN 5) bDOut (rngL 0 base.toNat) [some (stepsV ss), some (.int base), some (.int (q : Int)), some (heldV g), some (.lst []), none, none, none] = .next [some (stepsV ss), some (.int base), some (.int (q : Int)), some (heldV g), some (.lst (movesOf ss s base q g)), z5, z6, none] := by
    rw [rng_natsI, e3, ← due_moves ha.base0 ht]
    rfl
  clear e3
  have hmi : immL (movesOf ss s base q g) = true := flat_imm _ fun x hx => by
    obtain ⟨c, _, rfl⟩ := List.mem_map.mp hx
    exact trs_imm _ _ _ _
  have hk : rngOk base := rngOk_of (by have := ha.base0; omega) (by have := ha.base1; omega)
  unfold m__law_due
  rw [fnM_at rfl, due_is]
  generalize movesOf ss s base q g = MV at *
  generalize stepsV ss = SS at *
  generalize heldV g = G at *
  simp [e3', i1, i4, hmi, hk]
theorem due_fin {ss : List NW.Sp} {base : Int} (hb0 : 0 < base) (hb1 : base < 100) {q : Nat} (hs : ss[q]? = some .fin) (g : List Int) : m__law_due [stepsV ss, .int base, .int (q : Int), heldV g] = .ok (.tup []) [some (stepsV ss), some (.int base), some (.int (q : Int)), some (heldV g)] := by
  have i1 := held_imm g
  have i2 := stV_imm .fin
  have i4 := steps_imm ss
  have e1 := step_at hs
  have k1 := kind_at .fin
  have k2 : kindS .fin = "end" := rfl
  rw [k2] at k1
  have hk : rngOk base := rngOk_of (by omega) (by omega)
  have hL : ∀ (l : List Int) (y5 y6 : Option PV), ∃ z5, forL (tgN 5) bDOut (l.map .int) [some (stepsV ss), some (.int base), some (.int (q : Int)), some (heldV g), some (.lst []), y5, y6, none] = .next [some (stepsV ss), some (.int base), some (.int (q : Int)), some (heldV g), some (.lst []), z5, y6, none] := by
    intro l
    induction l with
    | nil => intro y5 y6; exact ⟨y5, rfl⟩
    | cons c l ih =>
      intro y5 y6
      obtain ⟨z5, e⟩ := ih (some (.int c)) y6
      refine ⟨z5, ?_⟩
      have et : tgN 5 (.int c) [some (stepsV ss), some (.int base), some (.int (q : Int)), some (heldV g), some (.lst []), y5, y6, none] = some [some (stepsV ss), some (.int base), some (.int (q : Int)), some (heldV g), some (.lst []), some (.int c), y6, none] := rfl
      have hb : bDOut [some (stepsV ss), some (.int base), some (.int (q : Int)), some (heldV g), some (.lst []), some (.int c), y6, none] = .next [some (stepsV ss), some (.int base), some (.int (q : Int)), some (heldV g), some (.lst []), some (.int c), y6, none] := by
        generalize stepsV ss = SS at *
        generalize stV .fin = SV at *
        generalize heldV g = G at *
        simp [bDOut, e1, i1, i2, i4, k1]
      rw [List.map_cons, forL_at et, hb, loopK_next, e]
  obtain ⟨z5, e⟩ := hL (natsI base.toNat) none none
  rw [← rng_natsI] at e
  unfold m__law_due
  rw [fnM_at rfl, due_is]
  generalize stepsV ss = SS at *
  generalize heldV g = G at *
  simp [e, i1, i4, hk]
end K28

/-! N24: drawn steps: one of them. -/
namespace K28
open PySem PySem.Spec L2 PVL NW
theorem draw_n (d : Dr) (n : Nat) (h1 : 0 < n) (h2 : n < 1073741824) : ∃ (r : Nat) (d' : Dr), m__law_draw [d.pv, .int (n : Int)] = .ok (.int (r : Int)) [some d'.pv, some (.int (n : Int))] ∧ r < n := by
  obtain ⟨r, d', e, r0, r1⟩ := draw_c d n (by omega) (by omega)
  refine ⟨r.toNat, d', ?_, by omega⟩
  rw [Int.toNat_of_nonneg r0]
  exact e
theorem draw_k (d : Dr) (n : Nat) (z : Int) (hz : z = (n : Int)) (h1 : 0 < n) (h2 : n < 1073741824) : ∃ (r : Nat) (d' : Dr), m__law_draw [d.pv, .int z] = .ok (.int (r : Int)) [some d'.pv, some (.int z)] ∧ r < n := by
  subst hz
  exact draw_n d n h1 h2
def bUpD : SM := (sSeq (sAsg (eCall m__law_draw (aCons (gRef 0) (aCons (gRef 2) (aNil)))) (tgN 6)) (sSeq (sAsg (eCall m__law_draw (aCons (gRef 0) (aCons (gOwn (eC (.int 7))) (aNil)))) (tgN 7)) (sSeq (sAsg (eOp pAdd (gOwn (eC (.int 1))) (gOwn (eCall m__law_draw (aCons (gRef 0) (aCons (gOwn (eC (.int 5))) (aNil)))))) (tgN 8)) (sExpr (eMeth "list" 3 pAppend (aCons (gOwn (eCall m__law_pick (aCons (gRef 0) (aCons (gOwn (eLst (aCons (gOwn (eTup (aCons (gOwn (eC (.str "up"))) (aCons (gOwn (eVar 6)) (aCons (gOwn (eVar 7)) (aNil)))))) (aCons (gOwn (eTup (aCons (gOwn (eC (.str "down"))) (aCons (gOwn (eVar 6)) (aNil))))) (aCons (gOwn (eTup (aCons (gOwn (eC (.str "add"))) (aCons (gOwn (eVar 6)) (aCons (gOwn (eN (rOp pAdd (rC (.int 2)) (rVar 7)))) (aNil)))))) (aCons (gOwn (eTup (aCons (gOwn (eC (.str "less"))) (aCons (gOwn (eVar 6)) (aCons (gOwn (eN (rOp pAdd (rC (.int 2)) (rVar 7)))) (aNil)))))) (aCons (gOwn (eTup (aCons (gOwn (eC (.str "roll"))) (aCons (gOwn (eVar 6)) (aCons (gOwn (eVar 8)) (aCons (gOwn (eN (rOp pAdd (rC (.int 2)) (rVar 7)))) (aNil))))))) (aCons (gOwn (eTup (aCons (gOwn (eC (.str "turn"))) (aCons (gOwn (eVar 6)) (aCons (gOwn (eN (rOp pAdd (rC (.int 2)) (rVar 7)))) (aNil)))))) (aCons (gOwn (eTup (aCons (gOwn (eC (.str "seen"))) (aCons (gOwn (eVar 6)) (aNil))))) (aNil)))))))))) (aNil))))) (aNil)))))))
def rTk : SM := (sSeq (sAsg (eCall m__law_pick (aCons (gRef 0) (aCons (gOwn (eLst (aCons (gOwn (eC (.str "a"))) (aCons (gOwn (eC (.str "b/c"))) (aCons (gOwn (eC (.str "left/.1"))) (aCons (gOwn (eC (.str "m/two/a"))) (aNil))))))) (aNil)))) (tgN 5)) (sSeq (sAsg (eCall m__law_draw (aCons (gRef 0) (aCons (gRef 2) (aNil)))) (tgN 6)) (sRet (eCall m__law_pick (aCons (gRef 0) (aCons (gOwn (eLst (aCons (gOwn (eTup (aCons (gOwn (eC (.str "cell"))) (aCons (gOwn (eCall m__law_draw (aCons (gRef 0) (aCons (gRef 1) (aNil))))) (aCons (gOwn (eVar 5)) (aCons (gOwn (eN (rCl pTuple (raCons (rVar 3) (raNil))))) (aNil))))))) (aCons (gOwn (eTup (aCons (gOwn (eC (.str "any"))) (aCons (gOwn (eVar 5)) (aCons (gOwn (eN (rCl pTuple (raCons (rVar 3) (raNil))))) (aNil)))))) (aCons (gOwn (eTup (aCons (gOwn (eC (.str "keep"))) (aCons (gOwn (eVar 6)) (aCons (gOwn (eVar 5)) (aCons (gOwn (eN (rCl pTuple (raCons (rVar 3) (raNil))))) (aNil))))))) (aCons (gOwn (eTup (aCons (gOwn (eC (.str "tell"))) (aCons (gOwn (eVar 6)) (aCons (gOwn (eCall m__law_pick (aCons (gRef 0) (aCons (gOwn (eLst (aCons (gOwn (eC (.int 1))) (aCons (gOwn (eVar 1)) (aCons (gOwn (eN (rOp pMul (rVar 1) (rVar 1)))) (aNil)))))) (aNil))))) (aCons (gOwn (eVar 5)) (aCons (gOwn (eN (rCl pTuple (raCons (rVar 3) (raNil))))) (aNil)))))))) (aNil))))))) (aNil)))))))
theorem taking_is : b_m__law_taking = sSeq (sAsg (eLst (aNil)) (tgN 3)) (sSeq (sFor (itR1 (aCons (gOwn (eCall m__law_draw (aCons (gRef 0) (aCons (gOwn (eC (.int 4))) (aNil))))) (aNil))) (tgN 4) bUpD) rTk) := rfl
def upsL (us : List Up) : PV := .lst (us.map upV)
theorem upD_r (d : Dr) (base : Int) {many : Nat} (hm0 : 0 < many) (hm : many ≤ 100) (us : List Up) (hl : us.length ≤ 1000) (k : PV) (y5 y6 y7 y8 : Option PV) : ∃ (d' : Dr) (u : Up) (z6 z7 z8 : Option PV), UpOk many u ∧
    bUpD [some d.pv, some (.int base), some (.int (many : Int)), some (upsL us), some k, y5, y6, y7, y8] = .next [some d'.pv, some (.int base), some (.int (many : Int)), some (upsL (us ++ [u])), some k, y5, z6, z7, z8] := by
  obtain ⟨c, d1, e1, hc⟩ := draw_n d many hm0 (by omega)
  obtain ⟨m, d2, e2, hm2⟩ := draw_k d1 7 7 rfl (by omega) (by omega)
  obtain ⟨b, d3, e3, hb⟩ := draw_k d2 5 5 rfl (by omega) (by omega)
  obtain ⟨x, d4, hx, e4⟩ := pick_mem d3 [.tup [.str "up", .int (c : Int), .int (m : Int)], .tup [.str "down", .int (c : Int)], .tup [.str "add", .int (c : Int), .int (2 + (m : Int))], .tup [.str "less", .int (c : Int), .int (2 + (m : Int))], .tup [.str "roll", .int (c : Int), .int (1 + (b : Int)), .int (2 + (m : Int))], .tup [.str "turn", .int (c : Int), .int (2 + (m : Int))], .tup [.str "seen", .int (c : Int)]] (by simp) (by simp) (by simp)
  have hu : ∃ u : Up, UpOk many u ∧ x = upV u := by
    simp only [List.mem_cons, List.not_mem_nil, or_false] at hx
    rcases hx with h | h | h | h | h | h | h
    · exact ⟨.up c m, hc, h⟩
    · exact ⟨.down c, hc, h⟩
    · exact ⟨.add c (2 + m), ⟨hc, by omega, by omega⟩, h⟩
    · exact ⟨.less c (2 + m), ⟨hc, by omega, by omega⟩, h⟩
    · exact ⟨.roll c (1 + b) (2 + m), ⟨hc, by omega, by omega, by omega, by omega⟩, h⟩
    · exact ⟨.turn c (2 + m), ⟨hc, by omega, by omega⟩, h⟩
    · exact ⟨.seen c, hc, h⟩
  obtain ⟨u, hu, rfl⟩ := hu
  refine ⟨d4, u, some (.int (c : Int)), some (.int (m : Int)), some (.int (1 + (b : Int))), hu, ?_⟩
  have i1 := up_imm u
  have hz : (us.map upV).length < sizeLine := lt_size (by rw [List.length_map]; omega)
  have z7 : 7 ≤ sizeLine := le_size (by omega)
  have z2 : 2 ≤ sizeLine := le_size (by omega)
  have z3 : 3 ≤ sizeLine := le_size (by omega)
  have z4 : 4 ≤ sizeLine := le_size (by omega)
  have ea : pAppend (upsL us) [upV u] = some (.non, upsL (us ++ [u])) := by
    unfold upsL
    rw [pAppend_l, if_pos hz, List.map_append]
    rfl
  have ht : tyP "list" (upsL us) = true := rfl
  generalize upsL (us ++ [u]) = U2 at *
  generalize upsL us = U1 at *
  generalize upV u = UV at *
  simp [bUpD, e1, e2, e3, e4, i1, z7, z2, z3, z4, ea, ht]
theorem upDL (base : Int) {many : Nat} (hm0 : 0 < many) (hm : many ≤ 100) (y5 : Option PV) : ∀ (xs : List PV) (d : Dr) (us : List Up) (y4 y6 y7 y8 : Option PV), us.length + xs.length ≤ 1000 → (∀ u ∈ us, UpOk many u) → ∃ (d' : Dr) (us' : List Up) (z4 z6 z7 z8 : Option PV), (∀ u ∈ us', UpOk many u) ∧ us'.length ≤ 1000 ∧
    forL (tgN 4) bUpD xs [some d.pv, some (.int base), some (.int (many : Int)), some (upsL us), y4, y5, y6, y7, y8] = .next [some d'.pv, some (.int base), some (.int (many : Int)), some (upsL us'), z4, y5, z6, z7, z8]
  | [], d, us, y4, y6, y7, y8, hl, hu => ⟨d, us, y4, y6, y7, y8, hu, by simpa using hl, rfl⟩
  | x :: xs, d, us, y4, y6, y7, y8, hl, hu => by
    simp only [List.length_cons] at hl
    obtain ⟨d1, u, z6, z7, z8, h1, e1⟩ := upD_r d base hm0 hm us (by omega) x y5 y6 y7 y8
    obtain ⟨d2, us', w4, w6, w7, w8, h2, h3, e2⟩ := upDL base hm0 hm y5 xs d1 (us ++ [u]) (some x) z6 z7 z8 (by rw [List.length_append, List.length_singleton]; omega) (fun v hv => by
      rcases List.mem_append.mp hv with hv | hv
      · exact hu v hv
      · rw [List.mem_singleton.mp hv]; exact h1)
    refine ⟨d2, us', w4, w6, w7, w8, h2, h3, ?_⟩
    rw [forL_at (e := [some d.pv, some (.int base), some (.int (many : Int)), some (upsL us), some x, y5, y6, y7, y8]) rfl, e1, loopK_next, e2]
/-- a drawn step that takes a cell -/
theorem taking_r (d : Dr) {base many : Nat} (hb0 : 0 < base) (hb : base ≤ 50) (hm0 : 0 < many) (hm : many ≤ 100) : ∃ (d' : Dr) (s : NW.Sp), s.stops = true ∧ s ≠ .fin ∧ TkOk s many base ∧ CtOk many s ∧
    m__law_taking [d.pv, .int (base : Int), .int (many : Int)] = .ok (stV s) [some d'.pv, some (.int (base : Int)), some (.int (many : Int))] := by
  obtain ⟨n, d1, e1, hn⟩ := draw_k d 4 4 rfl (by omega) (by omega)
  obtain ⟨d2, us, w4, w6, w7, w8, hu, hul, e2⟩ := upDL base hm0 hm none (rngL 0 n) d1 [] none none none none (by
    unfold rngL; rw [List.length_map, List.length_range, List.length_nil]; omega) (by simp)
  obtain ⟨lb, d3, hlb, e3⟩ := pick_mem d2 [.str "a", .str "b/c", .str "left/.1", .str "m/two/a"] (by simp) (by simp) (by simp)
  obtain ⟨lbs, rfl⟩ : ∃ z : Str, lb = .str z := by
    simp only [List.mem_cons, List.not_mem_nil, or_false] at hlb
    rcases hlb with h | h | h | h <;> exact ⟨_, h⟩
  obtain ⟨c, d4, e4, hc⟩ := draw_n d3 many hm0 (by omega)
  obtain ⟨v, d5, e5, hv⟩ := draw_n d4 base hb0 (by omega)
  obtain ⟨kx, d6, hkx, e6⟩ := pick_mem d5 [.int 1, .int (base : Int), .int ((base : Int) * (base : Int))] (by simp) (by simp) (by simp)
  obtain ⟨k, hk0, hk1, rfl⟩ : ∃ k : Int, 0 < k ∧ k < 10000 ∧ kx = .int k := by
    simp only [List.mem_cons, List.not_mem_nil, or_false] at hkx
    rcases hkx with h | h | h
    · exact ⟨1, by omega, by omega, h⟩
    · exact ⟨base, by omega, by omega, h⟩
    · refine ⟨_, Int.mul_pos (by omega) (by omega), ?_, h⟩
      have : (base : Int) * base ≤ 50 * 50 := Int.mul_le_mul (by omega) (by omega) (by omega) (by omega)
      omega
  have hui := ups_imm us
  obtain ⟨x, d7, hx, e7⟩ := pick_mem d6 [stV (.cell v lbs us), stV (.any lbs us), stV (.keep c lbs us), stV (.tell c k lbs us)] (by simp) (by simp) (by
    simp only [immL_cons, stV_imm, immL_nil, Bool.and_self])
  have hs : ∃ s : NW.Sp, s.stops = true ∧ s ≠ .fin ∧ TkOk s many base ∧ CtOk many s ∧ x = stV s := by
    simp only [List.mem_cons, List.not_mem_nil, or_false] at hx
    rcases hx with h | h | h | h
    · exact ⟨(.cell v lbs us : NW.Sp), rfl, by simp, ⟨hu, by simp, by simp, fun v' _ _ e => by cases e; omega⟩, trivial, h⟩
    · exact ⟨(.any lbs us : NW.Sp), rfl, by simp, ⟨hu, by simp, by simp, by simp⟩, trivial, h⟩
    · exact ⟨(.keep c lbs us : NW.Sp), rfl, by simp, ⟨hu, fun c' _ _ e => by cases e; exact hc, by simp, by simp⟩, trivial, h⟩
    · exact ⟨(.tell c k lbs us : NW.Sp), rfl, by simp, ⟨hu, by simp, fun c' k' _ _ e => by cases e; exact ⟨hc, hk0, hk1⟩, by simp⟩, trivial, h⟩
  obtain ⟨s, h1, h2, h3, h4, rfl⟩ := hs
  refine ⟨d7, s, h1, h2, h3, h4, ?_⟩
  have i1 := stV_imm s
  have hk : rngOk (n : Int) := rngOk_of (by omega) (by omega)
  have et : pTuple [upsL us] = some (upsV us) := by
    unfold upsL upsV
    rw [pTuple_l, if_pos hui]
  have eu : (upsV us).imm = true := by unfold upsV; rw [imm_tup]; exact hui
  have z3 : 3 ≤ sizeLine := le_size (by omega)
  have z4 : 4 ≤ sizeLine := le_size (by omega)
  have z5 : 5 ≤ sizeLine := le_size (by omega)
  have e0 : upsL [] = .lst [] := rfl
  rw [e0] at e2
  have hr : rTk [some d2.pv, some (.int (base : Int)), some (.int (many : Int)), some (upsL us), w4, none, w6, w7, w8] = .ret (stV s) [some d7.pv, some (.int (base : Int)), some (.int (many : Int)), some (upsL us), w4, some (.str lbs), some (.int (c : Int)), w7, w8] := by
    generalize hV : stV s = SV at *
    simp only [stV] at e7
    have hmul : pMul (.int (base : Int)) (.int (base : Int)) = some (.int ((base : Int) * base)) := mulSm (by omega) (by omega)
    generalize upsL us = UL at *
    generalize upsV us = UV at *
    generalize (base : Int) * base = BB at *
    simp [rTk, e3, e4, e5, e6, e7, et, eu, z3, z4, z5, hmul, i1]
  unfold m__law_taking
  rw [fnM_at rfl, taking_is]
  generalize stV s = SV at *
  generalize upsL us = UL at *
  simp [e1, e2, hr, hk]
end K28

/-! N25: drawn steps that take no cell. -/
namespace K28
open PySem PySem.Spec L2 PVL NW
def mLt : EM := eOp pAdd (gOwn (eN (rOp pAdd (rVar 1) (rC (.int 1))))) (gOwn (eCall m__law_draw (aCons (gRef 0) (aCons (gOwn (eN (rOp pSub (rVar 2) (rVar 1)))) (aNil)))))
def rPs : SM := sSeq (sIf (bAnd (bE (eN (rOp pLt (rVar 8) (rC (.int 2))))) (bE (eN (rOp pLt (rVar 4) (rC (.int 3)))))) (sRet (eTup (aCons (gOwn (eC (.str "fork"))) (aCons (gOwn (eCl pTuple (aCons (gOwn (eSl pSl (gRef 5) (oNone) (oSome (eOp pAdd (gOwn (eC (.int 1))) (gOwn (eCall m__law_draw (aCons (gRef 0) (aCons (gOwn (eC (.int 3))) (aNil))))))))) (aNil)))) (aNil))))) (sNil)) (sSeq (sIf (bE (eN (rOp pEq (rVar 8) (rC (.int 2))))) (sRet (eTup (aCons (gOwn (eC (.str "jump"))) (aCons (gOwn (eR (rOp pIx (rVar 5) (rC (.int 0))))) (aNil))))) (sNil)) (sSeq (sIf (bE (eN (rOp pEq (rVar 8) (rC (.int 3))))) (sRet (eTup (aCons (gOwn (eC (.str "round"))) (aCons (gOwn (eVar 6)) (aCons (gOwn (eR (rOp pIx (rVar 5) (rC (.int 0))))) (aNil)))))) (sNil)) (sSeq (sIf (bE (eN (rOp pEq (rVar 8) (rC (.int 4))))) (sRet (eTup (aCons (gOwn (eC (.str "check"))) (aCons (gOwn (eVar 6)) (aCons (gOwn (eCall m__law_draw (aCons (gRef 0) (aCons (gOwn (eC (.int 3))) (aNil))))) (aNil)))))) (sNil)) (sSeq (sIf (bE (eN (rOp pEq (rVar 8) (rC (.int 5))))) (sRet (eTup (aCons (gOwn (eC (.str "within"))) (aCons (gOwn (eVar 6)) (aCons (gOwn (eCall m__law_draw (aCons (gRef 0) (aCons (gOwn (eN (rOp pAdd (rVar 7) (rC (.int 1))))) (aNil))))) (aCons (gOwn (eVar 7)) (aNil))))))) (sNil)) (sSeq (sIf (bE (eN (rOp pEq (rVar 8) (rC (.int 6))))) (sRet (eTup (aCons (gOwn (eC (.str "put"))) (aCons (gOwn (eVar 6)) (aCons (gOwn (eVar 7)) (aNil)))))) (sNil)) (sSeq (sIf (bAnd (bE (eN (rOp pEq (rVar 8) (rC (.int 8))))) (bE (eCall m__law_rare (aCons (gRef 0) (aCons (gOwn (eC (.int 3))) (aNil)))))) (sRet (eTup (aCons (gOwn (eC (.str "never"))) (aNil)))) (sNil)) (sRet (eTup (aCons (gOwn (eC (.str "bump"))) (aCons (gOwn (eVar 6)) (aCons (gOwn (eCall m__law_pick (aCons (gRef 0) (aCons (gOwn (eLst (aCons (gOwn (eC (.int 1))) (aCons (gOwn (eN (rUn pNeg (rC (.int 1))))) (aCons (gOwn (eC (.int 2))) (aCons (gOwn (eN (rUn pNeg (rC (.int 3))))) (aNil))))))) (aNil))))) (aCons (gOwn (eVar 7)) (aNil)))))))))))))
theorem passing_is : b_m__law_passing = sSeq (sAsg (eLC (itR1 (aCons (gOwn (eC (.int 3))) (aNil))) [9] (tgN 9) (bYes) mLt) (tgN 5)) (sSeq (sAsg (eCall m__law_draw (aCons (gRef 0) (aCons (gRef 3) (aNil)))) (tgN 6)) (sSeq (sAsg (eCall m__law_draw (aCons (gRef 0) (aCons (gOwn (eC (.int 7))) (aNil)))) (tgN 7)) (sSeq (sAsg (eCall m__law_draw (aCons (gRef 0) (aCons (gOwn (eC (.int 9))) (aNil)))) (tgN 8)) rPs))) := rfl
def natI (t : Nat) : PV := .int (t : Int)
theorem mLt_r (d : Dr) {at_ last : Nat} (h : at_ < last) (h2 : last ≤ 1000) (y3 y4 y5 y6 y7 y8 y9 : Option PV) : ∃ (d' : Dr) (t : Nat), at_ < t ∧ t ≤ last ∧
    mLt [some d.pv, some (natI at_), some (natI last), y3, y4, y5, y6, y7, y8, y9] = .ok (natI t) [some d'.pv, some (natI at_), some (natI last), y3, y4, y5, y6, y7, y8, y9] := by
  obtain ⟨r, d1, e1, hr⟩ := draw_k d (last - at_) ((last : Int) - at_) (by omega) (by omega) (by omega)
  refine ⟨d1, at_ + 1 + r, by omega, by omega, ?_⟩
  have e : natI (at_ + 1 + r) = .int ((at_ : Int) + 1 + r) := by
    unfold natI; congr 1
  rw [e]
  simp [mLt, natI, e1]
theorem ltL {at_ last : Nat} (h : at_ < last) (h2 : last ≤ 1000) (y3 y4 y5 y6 y7 y8 : Option PV) : ∀ (xs : List PV) (d : Dr) (ts : List Nat), ts.length + xs.length ≤ 1000 → (∀ t ∈ ts, at_ < t ∧ t ≤ last) → ∃ (d' : Dr) (ts' : List Nat), (∀ t ∈ ts', at_ < t ∧ t ≤ last) ∧ ts'.length = ts.length + xs.length ∧
    lcL [9] (tgN 9) bYes mLt xs (ts.map natI) [some d.pv, some (natI at_), some (natI last), y3, y4, y5, y6, y7, y8, none] = .ok (.lst (ts'.map natI)) [some d'.pv, some (natI at_), some (natI last), y3, y4, y5, y6, y7, y8, none]
  | [], d, ts, hl, hts => ⟨d, ts, hts, by simp, rfl⟩
  | x :: xs, d, ts, hl, hts => by
    simp only [List.length_cons] at hl
    obtain ⟨d1, t, h3, h4, e1⟩ := mLt_r d h h2 y3 y4 y5 y6 y7 y8 (some x)
    obtain ⟨d2, ts', h5, h6, e2⟩ := ltL h h2 y3 y4 y5 y6 y7 y8 xs d1 (ts ++ [t]) (by rw [List.length_append, List.length_singleton]; omega) (fun u hu => by
      rcases List.mem_append.mp hu with hu | hu
      · exact hts u hu
      · rw [List.mem_singleton.mp hu]; exact ⟨h3, h4⟩)
    refine ⟨d2, ts', h5, by rw [h6, List.length_append, List.length_singleton, List.length_cons]; omega, ?_⟩
    have et : tgN 9 x [some d.pv, some (natI at_), some (natI last), y3, y4, y5, y6, y7, y8, none] = some [some d.pv, some (natI at_), some (natI last), y3, y4, y5, y6, y7, y8, some x] := rfl
    have hz : (ts.map natI).length < sizeLine := lt_size (by rw [List.length_map]; omega)
    rw [lcL_cons, et]
    simp only [bYes_ap, if_true, e1, if_pos hz]
    rw [List.map_append] at e2
    exact e2
def PsOk (at_ last many : Nat) (forks : Nat) : NW.Sp → Prop
  | .fork ts => ts.length ≤ 3 ∧ forks < 3 ∧ ∀ t ∈ ts, at_ < t ∧ t ≤ last
  | .jump t => at_ < t ∧ t ≤ last
  | .round c t => c < many ∧ at_ < t ∧ t ≤ last
  | .check c _ => c < many
  | .within c _ _ => c < many
  | .put c _ => c < many
  | .bump c _ _ => c < many
  | .never => True
  | _ => False
theorem cut_nats (ts : List Nat) (k : Nat) : pSl (.lst (ts.map natI)) none (some (k : Int)) = some (.lst ((ts.take k).map natI)) := by
  have hi : immL (ts.map natI) = true := immL_map _ _ fun _ _ => rfl
  rw [pSl_l, if_pos hi, pcut_map]
  unfold pcut
  rw [HT.sIx_none, HT.sIx_nat, List.drop_zero, Nat.sub_zero]
  have : ts.take (min k ts.length) = ts.take k := by
    by_cases q : k ≤ ts.length
    · rw [Nat.min_eq_left q]
    · rw [Nat.min_eq_right (by omega), List.take_length, List.take_of_length_le (by omega)]
  rw [this]
theorem passing_r (d : Dr) {at_ last many forks : Nat} (h : at_ < last) (h2 : last ≤ 1000) (hm0 : 0 < many) (hm : many ≤ 100) : ∃ (d' : Dr) (s : NW.Sp), PsOk at_ last many forks s ∧
    m__law_passing [d.pv, natI at_, natI last, natI many, natI forks] = .ok (stV s) [some d'.pv, some (natI at_), some (natI last), some (natI many), some (natI forks)] := by
  obtain ⟨d1, ts, hts, htl, e1⟩ := ltL h h2 (some (natI many)) (some (natI forks)) none none none none (rngL 0 3) d [] (by decide) (by simp)
  have htl3 : ts.length = 3 := htl
  obtain ⟨c, d2, e2, hc⟩ := draw_n d1 many hm0 (by omega)
  obtain ⟨n, d3, e3, hn⟩ := draw_k d2 7 7 rfl (by omega) (by omega)
  obtain ⟨w, d4, e4, hw⟩ := draw_k d3 9 9 rfl (by omega) (by omega)
  have hti : immL (ts.map natI) = true := immL_map _ _ fun _ _ => rfl
  have hat0 : ∃ t0, at_ < t0 ∧ t0 ≤ last ∧ pIx (.lst (ts.map natI)) (.int 0) = some (natI t0) := by
    match ts, htl3, hts with
    | t0 :: r, _, hts =>
      obtain ⟨q1, q2⟩ := hts t0 List.mem_cons_self
      exact ⟨t0, q1, q2, by rw [List.map_cons]; simp⟩
  obtain ⟨t0, q1, q2, e5⟩ := hat0
  have z2 : 2 ≤ sizeLine := le_size (by omega)
  have z1 : 1 ≤ sizeLine := le_size (by omega)
  have z3 : 3 ≤ sizeLine := le_size (by omega)
  have z4 : 4 ≤ sizeLine := le_size (by omega)
  have fin : ∀ (d' : Dr) (s : NW.Sp) (z5 z6 z7 z8 z9 : Option PV), PsOk at_ last many forks s → rPs [some d4.pv, some (natI at_), some (natI last), some (natI many), some (natI forks), some (.lst (ts.map natI)), some (natI c), some (natI n), some (natI w), none] = .ret (stV s) [some d'.pv, some (natI at_), some (natI last), some (natI many), some (natI forks), z5, z6, z7, z8, z9] →
      ∃ (d' : Dr) (s : NW.Sp), PsOk at_ last many forks s ∧ m__law_passing [d.pv, natI at_, natI last, natI many, natI forks] = .ok (stV s) [some d'.pv, some (natI at_), some (natI last), some (natI many), some (natI forks)] := by
    intro d' s z5 z6 z7 z8 z9 hs e
    refine ⟨d', s, hs, ?_⟩
    have i1 := stV_imm s
    have hk : rngOk (3 : Int) := rngOk_of (by omega) (by omega)
    unfold m__law_passing
    rw [fnM_at rfl, passing_is]
    have ez : ([] : List Nat).map natI = [] := rfl
    rw [ez] at e1
    have e2' : m__law_draw [d1.pv, natI many] = .ok (natI c) [some d2.pv, some (natI many)] := e2
    have e3' : m__law_draw [d2.pv, .int 7] = .ok (natI n) [some d3.pv, some (.int 7)] := e3
    have e4' : m__law_draw [d3.pv, .int 9] = .ok (natI w) [some d4.pv, some (.int 9)] := e4
    have t3 : (3 : Int).toNat = 3 := rfl
    have j : ∀ t, (natI t).imm = true := fun _ => rfl
    have j1 := j at_
    have j2 := j last
    have j3 := j many
    have j4 := j forks
    generalize ts.map natI = TS at *
    generalize stV s = SV at *
    generalize natI at_ = A at *
    generalize natI last = L at *
    generalize natI many = M at *
    generalize natI forks = F at *
    simp [hk, t3, e1, e2', e3', e4', e, j, j1, j2, j3, j4]
  by_cases hw2 : w < 2
  · by_cases hf : forks < 3
    · obtain ⟨r, d5, e6, hr⟩ := draw_k d4 3 3 rfl (by omega) (by omega)
      have e7 := cut_nats ts (1 + r)
      have hr1 : ((1 + r : Nat) : Int) = 1 + (r : Int) := by omega
      rw [hr1] at e7
      have hsi : immL ((ts.take (1 + r)).map natI) = true := immL_map _ _ fun _ _ => rfl
      refine fin d5 (.fork (ts.take (1 + r))) (some (.lst (ts.map natI))) (some (natI c)) (some (natI n)) (some (natI w)) none ⟨by rw [List.length_take]; omega, hf, fun t ht => hts t (List.mem_of_mem_take ht)⟩ ?_
      have es : stV (.fork (ts.take (1 + r))) = .tup [.str "fork", .tup ((ts.take (1 + r)).map natI)] := rfl
      rw [es]
      generalize (ts.take (1 + r)).map natI = T1 at *
      generalize ts.map natI = TS at *
      have hw3 : (w : Int) < 2 := by omega
      have hf3 : (forks : Int) < 3 := by omega
      simp [rPs, natI, hw3, hf3, e6, e7, hsi, z2]
    · obtain ⟨x, d5, hx, e6⟩ := pick_mem d4 [.int 1, .int (-1), .int 2, .int (-3)] (by simp) (by simp) (by simp)
      obtain ⟨b, rfl⟩ : ∃ b : Int, x = .int b := by
        simp only [List.mem_cons, List.not_mem_nil, or_false] at hx
        rcases hx with h | h | h | h <;> exact ⟨_, h⟩
      refine fin d5 (.bump c b n) (some (.lst (ts.map natI))) (some (natI c)) (some (natI n)) (some (natI w)) none hc ?_
      have es : stV (.bump c b n) = .tup [.str "bump", natI c, .int b, natI n] := rfl
      rw [es]
      generalize ts.map natI = TS at *
      have hw3 : (w : Int) < 2 := by omega
      have hf3 : ¬ ((forks : Int) < 3) := by omega
      have g1 : ¬ (w = 2) := by omega
      have g2 : ¬ (w = 3) := by omega
      have g3 : ¬ (w = 4) := by omega
      have g4 : ¬ (w = 5) := by omega
      have g5 : ¬ (w = 6) := by omega
      have g6 : ¬ (w = 8) := by omega
      have k1 : ¬ ((w : Int) = 2) := by omega
      have k2 : ¬ ((w : Int) = 3) := by omega
      have k3 : ¬ ((w : Int) = 4) := by omega
      have k4 : ¬ ((w : Int) = 5) := by omega
      have k5 : ¬ ((w : Int) = 6) := by omega
      have k6 : ¬ ((w : Int) = 8) := by omega
      simp [rPs, natI, hw3, hf3, k1, k2, k3, k4, k5, k6, e6, z4]
  · have k0 : ¬ ((w : Int) < 2) := by omega
    have hw' : w = 2 ∨ w = 3 ∨ w = 4 ∨ w = 5 ∨ w = 6 ∨ w = 7 ∨ w = 8 := by omega
    rcases hw' with rfl | rfl | rfl | rfl | rfl | rfl | rfl
    · refine fin d4 (.jump t0) (some (.lst (ts.map natI))) (some (natI c)) (some (natI n)) (some (natI 2)) none ⟨q1, q2⟩ ?_
      have es : stV (.jump t0) = .tup [.str "jump", natI t0] := rfl
      rw [es]
      generalize ts.map natI = TS at *
      simp [rPs, natI, e5, z2]
    · refine fin d4 (.round c t0) (some (.lst (ts.map natI))) (some (natI c)) (some (natI n)) (some (natI 3)) none ⟨hc, q1, q2⟩ ?_
      have es : stV (.round c t0) = .tup [.str "round", natI c, natI t0] := rfl
      rw [es]
      generalize ts.map natI = TS at *
      simp [rPs, natI, e5, z3]
    · obtain ⟨r, d5, e6, hr⟩ := draw_k d4 3 3 rfl (by omega) (by omega)
      refine fin d5 (.check c r) (some (.lst (ts.map natI))) (some (natI c)) (some (natI n)) (some (natI 4)) none hc ?_
      have es : stV (.check c r) = .tup [.str "check", natI c, natI r] := rfl
      rw [es]
      generalize ts.map natI = TS at *
      simp [rPs, natI, e6, z3]
    · obtain ⟨r, d5, e6, hr⟩ := draw_k d4 (n + 1) ((n : Int) + 1) (by omega) (by omega) (by omega)
      refine fin d5 (.within c r n) (some (.lst (ts.map natI))) (some (natI c)) (some (natI n)) (some (natI 5)) none hc ?_
      have es : stV (.within c r n) = .tup [.str "within", natI c, natI r, natI n] := rfl
      rw [es]
      generalize ts.map natI = TS at *
      simp [rPs, natI, e6, z4]
    · refine fin d4 (.put c n) (some (.lst (ts.map natI))) (some (natI c)) (some (natI n)) (some (natI 6)) none hc ?_
      have es : stV (.put c n) = .tup [.str "put", natI c, natI n] := rfl
      rw [es]
      generalize ts.map natI = TS at *
      simp [rPs, natI, z3]
    · obtain ⟨x, d5, hx, e6⟩ := pick_mem d4 [.int 1, .int (-1), .int 2, .int (-3)] (by simp) (by simp) (by simp)
      obtain ⟨b, rfl⟩ : ∃ b : Int, x = .int b := by
        simp only [List.mem_cons, List.not_mem_nil, or_false] at hx
        rcases hx with h | h | h | h <;> exact ⟨_, h⟩
      refine fin d5 (.bump c b n) (some (.lst (ts.map natI))) (some (natI c)) (some (natI n)) (some (natI 7)) none hc ?_
      have es : stV (.bump c b n) = .tup [.str "bump", natI c, .int b, natI n] := rfl
      rw [es]
      generalize ts.map natI = TS at *
      simp [rPs, natI, e6, z4]
    · obtain ⟨y, d5, e5'⟩ := rare_c d4 3 (by omega) (by omega)
      cases y with
      | true =>
        refine fin d5 .never (some (.lst (ts.map natI))) (some (natI c)) (some (natI n)) (some (natI 8)) none trivial ?_
        have es : stV .never = .tup [.str "never"] := rfl
        rw [es]
        generalize ts.map natI = TS at *
        simp [rPs, natI, e5', z1]
      | false =>
        obtain ⟨x, d6, hx, e6⟩ := pick_mem d5 [.int 1, .int (-1), .int 2, .int (-3)] (by simp) (by simp) (by simp)
        obtain ⟨b, rfl⟩ : ∃ b : Int, x = .int b := by
          simp only [List.mem_cons, List.not_mem_nil, or_false] at hx
          rcases hx with h | h | h | h <;> exact ⟨_, h⟩
        refine fin d6 (.bump c b n) (some (.lst (ts.map natI))) (some (natI c)) (some (natI n)) (some (natI 8)) none hc ?_
        have es : stV (.bump c b n) = .tup [.str "bump", natI c, .int b, natI n] := rfl
        rw [es]
        generalize ts.map natI = TS at *
        simp [rPs, natI, e5', e6, z4]
end K28

/-! N26: rows of drawn steps. -/
namespace NW
open PySem
def BackN (n : Nat) (ss : List Sp) (p s : Nat) : Prop := p + 1 < n ∧ (Turn ss s p ∨ ∃ c, ss[s]? = some (.round c (p + 1)) ∧ Short ss (s + 1))
def FwdN (n : Nat) (ss : List Sp) (q : Nat) : Sp → Prop
  | .fork ts => ∀ t ∈ ts, q < t ∧ t < n
  | .jump t => (q < t ∧ t < n) ∨ BackN n ss q t
  | .round _ t => (q < t ∧ t < n) ∧ q + 1 < n
  | .check .. => q + 1 < n
  | .within .. => q + 1 < n
  | .put .. => q + 1 < n
  | .bump .. => q + 1 < n
  | _ => True
theorem fwdN_stop {n : Nat} {ss : List Sp} {q : Nat} {s : Sp} (h : s.stops = true) : FwdN n ss q s := by
  cases s <;> first | trivial | (simp [Sp.stops] at h)
theorem get_app {α : Type} {l : List α} {q : Nat} {s : α} (h : l[q]? = some s) (r : List α) : (l ++ r)[q]? = some s := by
  obtain ⟨hq, e⟩ := List.getElem?_eq_some_iff.mp h
  rw [List.getElem?_append_left hq, h]
theorem Short.app {l : List Sp} {q : Nat} (h : Short l q) (r : List Sp) : Short (l ++ r) q := by
  rcases h with ⟨s, h1, h2⟩ | ⟨c, b, m, s, h1, h2, h3⟩
  · exact .inl ⟨s, get_app h1 r, h2⟩
  · exact .inr ⟨c, b, m, s, get_app h1 r, get_app h2 r, h3⟩
theorem BackN.app {n : Nat} {l : List Sp} {p s : Nat} (h : BackN n l p s) (r : List Sp) : BackN n (l ++ r) p s := by
  rcases h with ⟨h0, ⟨h1, h2⟩ | ⟨c, h1, h2⟩⟩
  · exact ⟨h0, .inl ⟨get_app h1 r, h2.app r⟩⟩
  · exact ⟨h0, .inr ⟨c, get_app h1 r, h2.app r⟩⟩
theorem FwdN.app {n : Nat} {l : List Sp} {q : Nat} {s : Sp} (h : FwdN n l q s) (r : List Sp) : FwdN n (l ++ r) q s := by
  cases s with
  | jump t =>
    rcases h with h | h
    · exact .inl h
    · exact .inr (h.app r)
  | _ => exact h
end NW
namespace K28
open PySem PySem.Spec L2 PVL NW
structure GenOk (last many : Nat) (base : Int) (l : List NW.Sp) (F : List Nat) : Prop where
  len : l.length ≤ last
  row : ∀ (q : Nat) (s : NW.Sp), l[q]? = some s → FwdN (last + 1) l q s
  st : ∀ s ∈ l, StOk many s
  tk : ∀ s ∈ l, s ≠ .fin ∧ (s.stops = true → TkOk s many base)
  fk : ∀ (q : Nat) (ts : List Nat), l[q]? = some (.fork ts) → (∃ e, ts = [e, q + 1] ∧ Short l (q + 1)) ∨ (ts.length ≤ 3 ∧ q ∈ F)
  f3 : F.length ≤ 3
theorem GenOk.app {last many : Nat} {base : Int} {l : List NW.Sp} {F : List Nat} (h : GenOk last many base l F) (r : List NW.Sp) (G : List Nat) (hlen : l.length + r.length ≤ last)
    (hrow : ∀ (i : Nat) (s : NW.Sp), r[i]? = some s → FwdN (last + 1) (l ++ r) (l.length + i) s) (hst : ∀ s ∈ r, StOk many s) (htk : ∀ s ∈ r, s ≠ .fin ∧ (s.stops = true → TkOk s many base))
    (hfk : ∀ (i : Nat) (ts : List Nat), r[i]? = some (.fork ts) → (∃ e, ts = [e, l.length + i + 1] ∧ Short (l ++ r) (l.length + i + 1)) ∨ (ts.length ≤ 3 ∧ l.length + i ∈ G)) (hF : F.length + G.length ≤ 3) : GenOk last many base (l ++ r) (F ++ G) := by
  have split : ∀ (q : Nat) (s : NW.Sp), (l ++ r)[q]? = some s → l[q]? = some s ∨ ∃ i, q = l.length + i ∧ r[i]? = some s := by
    intro q s hs
    by_cases hq : q < l.length
    · rw [List.getElem?_append_left hq] at hs; exact .inl hs
    · rw [List.getElem?_append_right (by omega)] at hs
      exact .inr ⟨q - l.length, by omega, hs⟩
  refine ⟨by rw [List.length_append]; exact hlen, fun q s hs => ?_, fun s hs => ?_, fun s hs => ?_, fun q ts hs => ?_, by rw [List.length_append]; exact hF⟩
  · rcases split q s hs with h1 | ⟨i, rfl, h1⟩
    · exact (h.row q s h1).app r
    · exact hrow i s h1
  · rcases List.mem_append.mp hs with h1 | h1
    · exact h.st s h1
    · exact hst s h1
  · rcases List.mem_append.mp hs with h1 | h1
    · exact h.tk s h1
    · exact htk s h1
  · rcases split q _ hs with h1 | ⟨i, rfl, h1⟩
    · rcases h.fk q ts h1 with ⟨e, h2, h3⟩ | ⟨h2, h3⟩
      · exact .inl ⟨e, h2, h3.app r⟩
      · exact .inr ⟨h2, List.mem_append_left _ h3⟩
    · rcases hfk i ts h1 with ⟨e, h2, h3⟩ | ⟨h2, h3⟩
      · exact .inl ⟨e, h2, h3⟩
      · exact .inr ⟨h2, List.mem_append_right _ h3⟩
def wF (F : List Nat) (q : Nat) : Nat := F.countP fun i => decide (q ≤ i)
theorem wF_le (F : List Nat) {q q' : Nat} (h : q ≤ q') : wF F q' ≤ wF F q := by
  unfold wF
  exact List.countP_mono_left fun x _ hx => by simp only [decide_eq_true_eq] at hx ⊢; omega
theorem wF_lt : ∀ (F : List Nat) {q : Nat}, q ∈ F → wF F (q + 1) < wF F q
  | [], _, h => by simp at h
  | x :: F, q, h => by
    have h0 := wF_le F (Nat.le_succ q)
    unfold wF at h0 ⊢
    rw [List.countP_cons, List.countP_cons]
    by_cases hx : x = q
    · subst hx
      have : ¬ (x + 1 ≤ x) := by omega
      simp only [decide_eq_true_eq, this, if_false, Nat.le_refl, if_true]
      simp only [Nat.succ_eq_add_one] at h0
      omega
    · have hm : q ∈ F := by
        rcases List.mem_cons.mp h with h | h
        · exact absurd h.symm hx
        · exact h
      have h1 := wF_lt F hm
      unfold wF at h1
      by_cases h2 : q + 1 ≤ x
      · have : q ≤ x := by omega
        simp only [decide_eq_true_eq, h2, this, if_true]
        omega
      · have : ¬ (q ≤ x) := by omega
        simp only [decide_eq_true_eq, h2, this, if_false]
        omega
theorem GenOk.all {many base : Nat} {l : List NW.Sp} {F : List Nat} (h : GenOk l.length many base l F) (hl : l.length ≤ 15) (hm : many ≤ 100) (hb0 : 0 < base) (hb : base < 100) : AllOk (l ++ [.fin]) many base (wF F) := by
  have hlen : (l ++ [NW.Sp.fin]).length = l.length + 1 := by rw [List.length_append]; rfl
  have split : ∀ (q : Nat) (s : NW.Sp), (l ++ [NW.Sp.fin])[q]? = some s → l[q]? = some s ∨ (q = l.length ∧ s = .fin) := by
    intro q s hs
    by_cases hq : q < l.length
    · rw [List.getElem?_append_left hq] at hs; exact .inl hs
    · rw [List.getElem?_append_right (by omega)] at hs
      obtain ⟨k, ek⟩ : ∃ k, q - l.length = k := ⟨_, rfl⟩
      rw [ek] at hs
      cases k with
      | zero => simp at hs; exact .inr ⟨by omega, hs.symm⟩
      | succ k => simp at hs
  have back : ∀ p s, BackN (l.length + 1) l p s → Back (l ++ [.fin]) p s := by
    intro p s hb
    obtain ⟨h0, h1⟩ := hb.app [NW.Sp.fin]
    exact ⟨by rw [hlen]; exact h0, h1⟩
  refine ⟨⟨fun q s hs => ?_, fun q s hs => ?_, hm⟩, ⟨fun q q' hq => wF_le F hq, fun q ts hs => ?_⟩, Nat.le_trans List.countP_le_length h.f3, by omega, by omega, by omega, fun q s hs h1 h2 => ?_⟩
  · rcases split q s hs with h1 | ⟨_, rfl⟩
    · have hf := h.row q s h1
      cases s with
      | fork ts => intro t ht; rw [hlen]; exact hf t ht
      | jump t =>
        rcases hf with hf | hf
        · exact .inl (by rw [hlen]; exact hf)
        · exact .inr (back _ _ hf)
      | round c t => exact ⟨by rw [hlen]; exact hf.1, by rw [hlen]; exact hf.2⟩
      | check c v => show _ < _; rw [hlen]; exact hf
      | within c lo hi => show _ < _; rw [hlen]; exact hf
      | put c v => show _ < _; rw [hlen]; exact hf
      | bump c b m => show _ < _; rw [hlen]; exact hf
      | _ => trivial
    · trivial
  · rcases split q s hs with h1 | ⟨_, rfl⟩
    · exact h.st s (List.mem_of_getElem? h1)
    · exact ⟨trivial, by simp⟩
  · rcases split q _ hs with h1 | ⟨_, h1⟩
    · rcases h.fk q ts h1 with ⟨e, h2, h3⟩ | ⟨h2, h3⟩
      · exact .inl ⟨e, h2, h3.app _⟩
      · exact .inr ⟨h2, wF_lt F h3⟩
    · cases h1
  · rcases split q s hs with h3 | ⟨_, h3⟩
    · obtain ⟨hq, _⟩ := List.getElem?_eq_some_iff.mp h3
      exact ⟨(h.tk s (List.mem_of_getElem? h3)).2 h1, by rw [hlen]; omega⟩
    · exact absurd h3 h2
end K28

/-! N27: rows of drawn steps: the drawing. -/
namespace K28
open PySem PySem.Spec L2 PVL NW
def bR1 : SM := sExpr (eMethB "list" 4 pExtend (aCons (gOwn (eLst (aCons (gOwn (eTup (aCons (gOwn (eC (.str "fork"))) (aCons (gOwn (eTup (aCons (gOwn (eN (rOp pAdd (rVar 7) (rC (.int 3))))) (aCons (gOwn (eN (rOp pAdd (rVar 7) (rC (.int 1))))) (aNil))))) (aNil))))) (aCons (gOwn (eCall m__law_taking (aCons (gRef 0) (aCons (gRef 1) (aCons (gRef 2) (aNil)))))) (aCons (gOwn (eTup (aCons (gOwn (eC (.str "jump"))) (aCons (gOwn (eVar 7)) (aNil))))) (aNil)))))) (aNil)))
def bR2 : SM := sExpr (eMethB "list" 4 pExtend (aCons (gOwn (eLst (aCons (gOwn (eTup (aCons (gOwn (eC (.str "round"))) (aCons (gOwn (eVar 9)) (aCons (gOwn (eN (rOp pAdd (rVar 7) (rC (.int 3))))) (aNil)))))) (aCons (gOwn (eCall m__law_taking (aCons (gRef 0) (aCons (gRef 1) (aCons (gRef 2) (aNil)))))) (aCons (gOwn (eTup (aCons (gOwn (eC (.str "jump"))) (aCons (gOwn (eVar 7)) (aNil))))) (aNil)))))) (aNil)))
def bR3 : SM := sSeq (sAsg (eTup (aCons (gOwn (eC (.str "bump"))) (aCons (gOwn (eCall m__law_draw (aCons (gRef 0) (aCons (gRef 2) (aNil))))) (aCons (gOwn (eCall m__law_pick (aCons (gRef 0) (aCons (gOwn (eLst (aCons (gOwn (eC (.int 1))) (aCons (gOwn (eN (rUn pNeg (rC (.int 1))))) (aNil))))) (aNil))))) (aCons (gOwn (eCall m__law_draw (aCons (gRef 0) (aCons (gOwn (eC (.int 7))) (aNil))))) (aNil)))))) (tgN 10)) (sSeq (sAsg (eCall m__law_taking (aCons (gRef 0) (aCons (gRef 1) (aCons (gRef 2) (aNil))))) (tgN 11)) (sSeq (sExpr (eMethB "list" 4 pExtend (aCons (gOwn (eLst (aCons (gOwn (eTup (aCons (gOwn (eC (.str "fork"))) (aCons (gOwn (eTup (aCons (gOwn (eN (rOp pAdd (rVar 7) (rC (.int 6))))) (aCons (gOwn (eN (rOp pAdd (rVar 7) (rC (.int 1))))) (aNil))))) (aNil))))) (aCons (gOwn (eVar 10)) (aCons (gOwn (eVar 11)) (aNil)))))) (aNil)))) (sExpr (eMethB "list" 4 pExtend (aCons (gOwn (eLst (aCons (gOwn (eTup (aCons (gOwn (eC (.str "check"))) (aCons (gOwn (eVar 9)) (aCons (gOwn (eC (.int 1))) (aNil)))))) (aCons (gOwn (eTup (aCons (gOwn (eC (.str "put"))) (aCons (gOwn (eVar 9)) (aCons (gOwn (eC (.int 0))) (aNil)))))) (aCons (gOwn (eTup (aCons (gOwn (eC (.str "jump"))) (aCons (gOwn (eVar 7)) (aNil))))) (aNil)))))) (aNil))))))
def bR4 : SM := sExpr (eMeth "list" 4 pAppend (aCons (gOwn (eCall m__law_taking (aCons (gRef 0) (aCons (gRef 1) (aCons (gRef 2) (aNil)))))) (aNil)))
def bR5 : SM := sSeq (sExpr (eMeth "list" 4 pAppend (aCons (gOwn (eCall m__law_passing (aCons (gRef 0) (aCons (gRef 7) (aCons (gRef 3) (aCons (gRef 2) (aCons (gRef 5) (aNil)))))))) (aNil)))) (sAug 5 pAddI (eN (rCl pInt (raCons (rOp pEq (rOp pIx (rOp pIx (rVar 4) (rUn pNeg (rC (.int 1)))) (rC (.int 0))) (rC (.str "fork"))) (raNil)))))
def bRow : SM := sSeq (sAsg (eN (rCl pLen (raCons (rVar 4) (raNil)))) (tgN 7)) (sSeq (sAsg (eCall m__law_draw (aCons (gRef 0) (aCons (gOwn (eC (.int 10))) (aNil)))) (tgN 8)) (sSeq (sAsg (eCall m__law_draw (aCons (gRef 0) (aCons (gRef 2) (aNil)))) (tgN 9)) (sIf (bE (eN (rOp pLt (rVar 7) (rVar 3)))) (sIf (bAnd (bE (eN (rOp pEq (rVar 8) (rC (.int 1))))) (bE (eN (rOp pLe (rOp pAdd (rVar 7) (rC (.int 3))) (rVar 3))))) bR1 (sIf (bAnd (bE (eN (rOp pEq (rVar 8) (rC (.int 2))))) (bE (eN (rOp pLe (rOp pAdd (rVar 7) (rC (.int 3))) (rVar 3))))) bR2 (sIf (bAnd (bE (eN (rOp pEq (rVar 8) (rC (.int 3))))) (bE (eN (rOp pLe (rOp pAdd (rVar 7) (rC (.int 6))) (rVar 3))))) bR3 (sIf (bE (eN (rOp pLt (rVar 8) (rC (.int 6))))) bR4 bR5)))) sNil)))
theorem row_is : b_m__law_row_of_steps = sSeq (sAsg (eOp pAdd (gOwn (eC (.int 2))) (gOwn (eCall m__law_draw (aCons (gRef 0) (aCons (gOwn (eC (.int 7))) (aNil)))))) (tgN 1)) (sSeq (sAsg (eOp pAdd (gOwn (eC (.int 1))) (gOwn (eCall m__law_draw (aCons (gRef 0) (aCons (gOwn (eC (.int 5))) (aNil)))))) (tgN 2)) (sSeq (sAsg (eOp pAdd (gOwn (eC (.int 4))) (gOwn (eCall m__law_draw (aCons (gRef 0) (aCons (gOwn (eC (.int 11))) (aNil)))))) (tgN 3)) (sSeq (sAsg (eLst (aNil)) (tgN 4)) (sSeq (sAsg (eC (.int 0)) (tgN 5)) (sSeq (sFor (itR1 (aCons (gRef 3) (aNil))) (tgN 6) bRow) (sRet (eTup (aCons (gOwn (eVar 1)) (aCons (gOwn (eVar 2)) (aCons (gOwn (eOp pAdd (gOwn (eN (rCl pTuple (raCons (rVar 4) (raNil))))) (gOwn (eTup (aCons (gOwn (eTup (aCons (gOwn (eC (.str "end"))) (aNil)))) (aNil)))))) (aNil))))))))))) := rfl
def lV (l : List NW.Sp) : PV := .lst (l.map stV)
theorem ext_lV (l r : List NW.Sp) (h : l.length + r.length ≤ 100000) : pExtend (lV l) [.lst (r.map stV)] = some (.non, lV (l ++ r)) := by
  have hi : immL (r.map stV) = true := immL_map _ _ fun s _ => stV_imm s
  unfold lV
  rw [pExtend_l, if_pos ⟨le_size (by rw [List.length_map, List.length_map]; omega), hi⟩, List.map_append]
theorem app_lV (l : List NW.Sp) (s : NW.Sp) (h : l.length ≤ 100000) : pAppend (lV l) [stV s] = some (.non, lV (l ++ [s])) := by
  unfold lV
  rw [pAppend_l, if_pos (lt_size (by rw [List.length_map]; omega)), List.map_append]
  rfl
theorem ty_lV (l : List NW.Sp) : tyP "list" (lV l) = true := rfl
theorem len_lV (l : List NW.Sp) : pLen [lV l] = some (natI l.length) := by
  unfold lV natI
  rw [pLen_l, List.length_map]
/-- the state of the loop behind one turn -/
def After (last many base : Nat) (l : List NW.Sp) (F : List Nat) (o : SO) (x : PV) : Prop := ∃ (d' : Dr) (l' : List NW.Sp) (F' : List Nat) (z7 z8 z9 z10 z11 : Option PV), GenOk last many base l' F' ∧ (l.length < last → l.length < l'.length) ∧ (l.length = last → l'.length = last) ∧
  o = .next [some d'.pv, some (natI base), some (natI many), some (natI last), some (lV l'), some (natI F'.length), some x, z7, z8, z9, z10, z11]
theorem After.eq {last many base : Nat} {l : List NW.Sp} {F : List Nat} {o o' : SO} {x : PV} (h : After last many base l F o' x) (e : o = o') : After last many base l F o x := by
  rw [e]; exact h
theorem r1 (d : Dr) {last many base : Nat} (hm0 : 0 < many) (hm : many ≤ 100) (hb0 : 0 < base) (hb : base ≤ 50) (hl : last ≤ 1000) {l : List NW.Sp} {F : List Nat} (g : GenOk last many base l F) (h3 : l.length + 3 ≤ last) (x : PV) (y8 y9 y10 y11 : Option PV) :
    After last many base l F (bR1 [some d.pv, some (natI base), some (natI many), some (natI last), some (lV l), some (natI F.length), some x, some (natI l.length), y8, y9, y10, y11]) x := by
  obtain ⟨d1, s, h4, h5, h6, h7, e⟩ := taking_r d hb0 hb hm0 hm
  have e' : m__law_taking [d.pv, natI base, natI many] = .ok (stV s) [some d1.pv, some (natI base), some (natI many)] := e
  refine ⟨d1, l ++ [.fork [l.length + 3, l.length + 1], s, .jump l.length], F ++ [], some (natI l.length), y8, y9, y10, y11, ?_, ?_, ?_, ?_⟩
  · have g0 : (l ++ [NW.Sp.fork [l.length + 3, l.length + 1], s, .jump l.length])[l.length]? = some (.fork [l.length + 3, l.length + 1]) := by
      rw [List.getElem?_append_right (Nat.le_refl _), Nat.sub_self]; rfl
    have g1 : (l ++ [NW.Sp.fork [l.length + 3, l.length + 1], s, .jump l.length])[l.length + 1]? = some s := by
      rw [List.getElem?_append_right (by omega), Nat.add_sub_cancel_left]; rfl
    have hsh : Short (l ++ [NW.Sp.fork [l.length + 3, l.length + 1], s, .jump l.length]) (l.length + 1) := .inl ⟨s, g1, h4⟩
    refine g.app _ [] (by simpa using h3) (fun i t ht => ?_) (fun t ht => ?_) (fun t ht => ?_) (fun i ts ht => ?_) (by simpa using g.f3)
    · match i, ht with
      | 0, ht =>
        cases ht
        intro t ht
        simp only [List.mem_cons, List.not_mem_nil, or_false] at ht
        omega
      | 1, ht => cases ht; exact fwdN_stop h4
      | 2, ht => cases ht; exact .inr ⟨by omega, .inl ⟨g0, hsh⟩⟩
      | i + 3, ht => simp at ht
    · simp only [List.mem_cons, List.not_mem_nil, or_false] at ht
      rcases ht with rfl | rfl | rfl
      · exact ⟨trivial, fun ts e => by cases e; simp⟩
      · exact ⟨h7, fun ts e => by rw [e] at h4; simp [NW.Sp.stops] at h4⟩
      · exact ⟨trivial, by simp⟩
    · simp only [List.mem_cons, List.not_mem_nil, or_false] at ht
      rcases ht with rfl | rfl | rfl
      · exact ⟨by simp, by simp [NW.Sp.stops]⟩
      · exact ⟨h5, fun _ => h6⟩
      · exact ⟨by simp, by simp [NW.Sp.stops]⟩
    · match i, ht with
      | 0, ht => cases ht; exact .inl ⟨_, rfl, hsh⟩
      | 1, ht => cases ht; simp [NW.Sp.stops] at h4
      | 2, ht => simp at ht
      | i + 3, ht => simp at ht
  · intro _; simp
  · intro h; omega
  · have ea := ext_lV l [.fork [l.length + 3, l.length + 1], s, .jump l.length] (by simp; omega)
    have es : ([NW.Sp.fork [l.length + 3, l.length + 1], s, .jump l.length]).map stV = [.tup [.str "fork", .tup [.int ((l.length : Int) + 3), .int ((l.length : Int) + 1)]], stV s, .tup [.str "jump", natI l.length]] := rfl
    rw [es] at ea
    have ht := ty_lV l
    have i1 := stV_imm s
    have z2 : 2 ≤ sizeLine := le_size (by omega)
    have z3 : 3 ≤ sizeLine := le_size (by omega)
    rw [List.append_nil]
    generalize lV (l ++ [.fork [l.length + 3, l.length + 1], s, .jump l.length]) = L2 at *
    generalize lV l = L1 at *
    generalize stV s = SV at *
    simp [bR1, natI] at e' ea ⊢
    simp [e', ea, ht, z2, z3, i1]
theorem r2 (d : Dr) {last many base : Nat} (hm0 : 0 < many) (hm : many ≤ 100) (hb0 : 0 < base) (hb : base ≤ 50) (hl : last ≤ 1000) {l : List NW.Sp} {F : List Nat} (g : GenOk last many base l F) (h3 : l.length + 3 ≤ last) (x : PV) {c : Nat} (hc : c < many) (y8 y10 y11 : Option PV) :
    After last many base l F (bR2 [some d.pv, some (natI base), some (natI many), some (natI last), some (lV l), some (natI F.length), some x, some (natI l.length), y8, some (natI c), y10, y11]) x := by
  obtain ⟨d1, s, h4, h5, h6, h7, e⟩ := taking_r d hb0 hb hm0 hm
  have e' : m__law_taking [d.pv, natI base, natI many] = .ok (stV s) [some d1.pv, some (natI base), some (natI many)] := e
  refine ⟨d1, l ++ [.round c (l.length + 3), s, .jump l.length], F ++ [], some (natI l.length), y8, some (natI c), y10, y11, ?_, ?_, ?_, ?_⟩
  · have g0 : (l ++ [NW.Sp.round c (l.length + 3), s, .jump l.length])[l.length]? = some (.round c (l.length + 3)) := by
      rw [List.getElem?_append_right (Nat.le_refl _), Nat.sub_self]; rfl
    have g1 : (l ++ [NW.Sp.round c (l.length + 3), s, .jump l.length])[l.length + 1]? = some s := by
      rw [List.getElem?_append_right (by omega), Nat.add_sub_cancel_left]; rfl
    have hsh : Short (l ++ [NW.Sp.round c (l.length + 3), s, .jump l.length]) (l.length + 1) := .inl ⟨s, g1, h4⟩
    refine g.app _ [] (by simpa using h3) (fun i t ht => ?_) (fun t ht => ?_) (fun t ht => ?_) (fun i ts ht => ?_) (by simpa using g.f3)
    · match i, ht with
      | 0, ht => cases ht; exact ⟨⟨by omega, by omega⟩, by omega⟩
      | 1, ht => cases ht; exact fwdN_stop h4
      | 2, ht => cases ht; exact .inr ⟨by omega, .inr ⟨c, g0, hsh⟩⟩
      | i + 3, ht => simp at ht
    · simp only [List.mem_cons, List.not_mem_nil, or_false] at ht
      rcases ht with rfl | rfl | rfl
      · exact ⟨hc, by simp⟩
      · exact ⟨h7, fun ts e => by rw [e] at h4; simp [NW.Sp.stops] at h4⟩
      · exact ⟨trivial, by simp⟩
    · simp only [List.mem_cons, List.not_mem_nil, or_false] at ht
      rcases ht with rfl | rfl | rfl
      · exact ⟨by simp, by simp [NW.Sp.stops]⟩
      · exact ⟨h5, fun _ => h6⟩
      · exact ⟨by simp, by simp [NW.Sp.stops]⟩
    · match i, ht with
      | 0, ht => cases ht
      | 1, ht => cases ht; simp [NW.Sp.stops] at h4
      | 2, ht => simp at ht
      | i + 3, ht => simp at ht
  · intro _; simp
  · intro h; omega
  · have ea := ext_lV l [.round c (l.length + 3), s, .jump l.length] (by simp; omega)
    have es : ([NW.Sp.round c (l.length + 3), s, .jump l.length]).map stV = [.tup [.str "round", natI c, .int ((l.length : Int) + 3)], stV s, .tup [.str "jump", natI l.length]] := rfl
    rw [es] at ea
    have ht := ty_lV l
    have i1 := stV_imm s
    have z2 : 2 ≤ sizeLine := le_size (by omega)
    have z3 : 3 ≤ sizeLine := le_size (by omega)
    rw [List.append_nil]
    generalize lV (l ++ [.round c (l.length + 3), s, .jump l.length]) = L2 at *
    generalize lV l = L1 at *
    generalize stV s = SV at *
    simp [bR2, natI] at e' ea ⊢
    simp [e', ea, ht, z2, z3, i1]
theorem r3 (d : Dr) {last many base : Nat} (hm0 : 0 < many) (hm : many ≤ 100) (hb0 : 0 < base) (hb : base ≤ 50) (hl : last ≤ 1000) {l : List NW.Sp} {F : List Nat} (g : GenOk last many base l F) (h3 : l.length + 6 ≤ last) (x : PV) {c : Nat} (hc : c < many) (y8 y10 y11 : Option PV) :
    After last many base l F (bR3 [some d.pv, some (natI base), some (natI many), some (natI last), some (lV l), some (natI F.length), some x, some (natI l.length), y8, some (natI c), y10, y11]) x := by
  obtain ⟨c2, d1, e1, hc2⟩ := draw_n d many hm0 (by omega)
  obtain ⟨bx, d2, hbx, e2⟩ := pick_mem d1 [.int 1, .int (-1)] (by simp) (by simp) (by simp)
  obtain ⟨b, rfl⟩ : ∃ b : Int, bx = .int b := by
    simp only [List.mem_cons, List.not_mem_nil, or_false] at hbx
    rcases hbx with h | h <;> exact ⟨_, h⟩
  obtain ⟨m, d3, e3, hm7⟩ := draw_k d2 7 7 rfl (by omega) (by omega)
  obtain ⟨d4, s, h4, h5, h6, h7, e⟩ := taking_r d3 hb0 hb hm0 hm
  have e' : m__law_taking [d3.pv, natI base, natI many] = .ok (stV s) [some d4.pv, some (natI base), some (natI many)] := e
  refine ⟨d4, l ++ [.fork [l.length + 6, l.length + 1], .bump c2 b m, s, .check c 1, .put c 0, .jump l.length], F ++ [], some (natI l.length), y8, some (natI c), some (stV (.bump c2 b m)), some (stV s), ?_, ?_, ?_, ?_⟩
  · have g0 : (l ++ [NW.Sp.fork [l.length + 6, l.length + 1], .bump c2 b m, s, .check c 1, .put c 0, .jump l.length])[l.length]? = some (.fork [l.length + 6, l.length + 1]) := by
      rw [List.getElem?_append_right (Nat.le_refl _), Nat.sub_self]; rfl
    have g1 : (l ++ [NW.Sp.fork [l.length + 6, l.length + 1], .bump c2 b m, s, .check c 1, .put c 0, .jump l.length])[l.length + 1]? = some (.bump c2 b m) := by
      rw [List.getElem?_append_right (by omega), Nat.add_sub_cancel_left]; rfl
    have g2 : (l ++ [NW.Sp.fork [l.length + 6, l.length + 1], .bump c2 b m, s, .check c 1, .put c 0, .jump l.length])[l.length + 1 + 1]? = some s := by
      rw [List.getElem?_append_right (by omega), Nat.add_assoc, Nat.add_sub_cancel_left]; rfl
    have hsh : Short (l ++ [NW.Sp.fork [l.length + 6, l.length + 1], .bump c2 b m, s, .check c 1, .put c 0, .jump l.length]) (l.length + 1) := .inr ⟨c2, b, m, s, g1, g2, h4⟩
    refine g.app _ [] (by simpa using h3) (fun i t ht => ?_) (fun t ht => ?_) (fun t ht => ?_) (fun i ts ht => ?_) (by simpa using g.f3)
    · match i, ht with
      | 0, ht =>
        cases ht
        intro t ht
        simp only [List.mem_cons, List.not_mem_nil, or_false] at ht
        omega
      | 1, ht => cases ht; show _ < _; omega
      | 2, ht => cases ht; exact fwdN_stop h4
      | 3, ht => cases ht; show _ < _; omega
      | 4, ht => cases ht; show _ < _; omega
      | 5, ht => cases ht; exact .inr ⟨by omega, .inl ⟨g0, hsh⟩⟩
      | i + 6, ht => simp at ht
    · simp only [List.mem_cons, List.not_mem_nil, or_false] at ht
      rcases ht with rfl | rfl | rfl | rfl | rfl | rfl
      · exact ⟨trivial, fun ts e => by cases e; simp⟩
      · exact ⟨hc2, by simp⟩
      · exact ⟨h7, fun ts e => by rw [e] at h4; simp [NW.Sp.stops] at h4⟩
      · exact ⟨hc, by simp⟩
      · exact ⟨hc, by simp⟩
      · exact ⟨trivial, by simp⟩
    · simp only [List.mem_cons, List.not_mem_nil, or_false] at ht
      rcases ht with rfl | rfl | rfl | rfl | rfl | rfl
      · exact ⟨by simp, by simp [NW.Sp.stops]⟩
      · exact ⟨by simp, by simp [NW.Sp.stops]⟩
      · exact ⟨h5, fun _ => h6⟩
      · exact ⟨by simp, by simp [NW.Sp.stops]⟩
      · exact ⟨by simp, by simp [NW.Sp.stops]⟩
      · exact ⟨by simp, by simp [NW.Sp.stops]⟩
    · match i, ht with
      | 0, ht => cases ht; exact .inl ⟨_, rfl, hsh⟩
      | 1, ht => simp at ht
      | 2, ht => cases ht; simp [NW.Sp.stops] at h4
      | 3, ht => simp at ht
      | 4, ht => simp at ht
      | 5, ht => simp at ht
      | i + 6, ht => simp at ht
  · intro _; simp
  · intro h; omega
  · have ea := ext_lV l [.fork [l.length + 6, l.length + 1], .bump c2 b m, s] (by simp; omega)
    have eb := ext_lV (l ++ [.fork [l.length + 6, l.length + 1], .bump c2 b m, s]) [.check c 1, .put c 0, .jump l.length] (by simp; omega)
    rw [List.append_assoc] at eb
    have es : ([NW.Sp.fork [l.length + 6, l.length + 1], .bump c2 b m, s]).map stV = [.tup [.str "fork", .tup [.int ((l.length : Int) + 6), .int ((l.length : Int) + 1)]], .tup [.str "bump", natI c2, .int b, natI m], stV s] := rfl
    have es2 : ([NW.Sp.check c 1, .put c 0, .jump l.length]).map stV = [.tup [.str "check", natI c, .int 1], .tup [.str "put", natI c, .int 0], .tup [.str "jump", natI l.length]] := rfl
    have es3 : stV (.bump c2 b m) = .tup [.str "bump", natI c2, .int b, natI m] := rfl
    rw [es] at ea
    rw [es2] at eb
    rw [es3]
    simp only [List.cons_append, List.nil_append] at eb
    have ht := ty_lV l
    have ht2 := ty_lV (l ++ [.fork [l.length + 6, l.length + 1], .bump c2 b m, s])
    have i1 := stV_imm s
    have z2 : 2 ≤ sizeLine := le_size (by omega)
    have z3 : 3 ≤ sizeLine := le_size (by omega)
    have z4 : 4 ≤ sizeLine := le_size (by omega)
    rw [List.append_nil]
    generalize lV (l ++ [.fork [l.length + 6, l.length + 1], .bump c2 b m, s, .check c 1, .put c 0, .jump l.length]) = L3 at *
    generalize lV (l ++ [.fork [l.length + 6, l.length + 1], .bump c2 b m, s]) = L2 at *
    generalize lV l = L1 at *
    generalize stV s = SV at *
    simp [bR3, natI] at e' ea eb e1 e3 ⊢
    simp [e1, e2, e3, e', ea, eb, ht, ht2, z2, z3, z4, i1]
theorem r4 (d : Dr) {last many base : Nat} (hm0 : 0 < many) (hm : many ≤ 100) (hb0 : 0 < base) (hb : base ≤ 50) (hl : last ≤ 1000) {l : List NW.Sp} {F : List Nat} (g : GenOk last many base l F) (h3 : l.length < last) (x : PV) (y8 y9 y10 y11 : Option PV) :
    After last many base l F (bR4 [some d.pv, some (natI base), some (natI many), some (natI last), some (lV l), some (natI F.length), some x, some (natI l.length), y8, y9, y10, y11]) x := by
  obtain ⟨d1, s, h4, h5, h6, h7, e⟩ := taking_r d hb0 hb hm0 hm
  have e' : m__law_taking [d.pv, natI base, natI many] = .ok (stV s) [some d1.pv, some (natI base), some (natI many)] := e
  refine ⟨d1, l ++ [s], F ++ [], some (natI l.length), y8, y9, y10, y11, ?_, ?_, ?_, ?_⟩
  · refine g.app _ [] (by simp; omega) (fun i t ht => ?_) (fun t ht => ?_) (fun t ht => ?_) (fun i ts ht => ?_) (by simpa using g.f3)
    · match i, ht with
      | 0, ht => cases ht; exact fwdN_stop h4
      | i + 1, ht => simp at ht
    · rw [List.mem_singleton.mp ht]
      exact ⟨h7, fun ts e => by rw [e] at h4; simp [NW.Sp.stops] at h4⟩
    · rw [List.mem_singleton.mp ht]
      exact ⟨h5, fun _ => h6⟩
    · match i, ht with
      | 0, ht => cases ht; simp [NW.Sp.stops] at h4
      | i + 1, ht => simp at ht
  · intro _; simp
  · intro h; omega
  · have ea := app_lV l s (by omega)
    have ht := ty_lV l
    have i1 := stV_imm s
    rw [List.append_nil]
    generalize lV (l ++ [s]) = L2 at *
    generalize lV l = L1 at *
    generalize stV s = SV at *
    simp [bR4, natI] at e' ea ⊢
    simp [e', ea, ht, i1]
theorem last_at (l : List NW.Sp) (s : NW.Sp) : pIx (lV (l ++ [s])) (.int (-1)) = some (stV s) := by
  unfold lV
  rw [pIx_l, at_neg _ _ (by omega) (by rw [List.length_map, List.length_append, List.length_singleton]; omega), List.map_append]
  have : ((-1 : Int) + ((l.map stV ++ [s].map stV).length : Int)).toNat = (l.map stV).length := by
    rw [List.length_append]
    simp
    omega
  rw [this, List.getElem?_append_right (Nat.le_refl _), Nat.sub_self]
  rfl
theorem r5 (d : Dr) {last many base : Nat} (hm0 : 0 < many) (hm : many ≤ 100) (hb0 : 0 < base) (hb : base ≤ 50) (hl : last ≤ 1000) {l : List NW.Sp} {F : List Nat} (g : GenOk last many base l F) (h3 : l.length < last) (x : PV) (y8 y9 y10 y11 : Option PV) :
    After last many base l F (bR5 [some d.pv, some (natI base), some (natI many), some (natI last), some (lV l), some (natI F.length), some x, some (natI l.length), y8, y9, y10, y11]) x := by
  obtain ⟨d1, s, hs, e'⟩ := passing_r d (forks := F.length) h3 hl hm0 hm
  have ea := app_lV l s (by omega)
  have hla := last_at l s
  have hk := kind_at s
  have ht := ty_lV l
  have i1 := stV_imm s
  have hrun : bR5 [some d.pv, some (natI base), some (natI many), some (natI last), some (lV l), some (natI F.length), some x, some (natI l.length), y8, y9, y10, y11] = .next [some d1.pv, some (natI base), some (natI many), some (natI last), some (lV (l ++ [s])), some (.int ((F.length : Int) + (if kindS s = "fork" then 1 else 0))), some x, some (natI l.length), y8, y9, y10, y11] := by
    generalize lV (l ++ [s]) = L2 at *
    generalize lV l = L1 at *
    generalize stV s = SV at *
    generalize kindS s = KS at *
    simp [bR5, natI] at e' ea ⊢
    by_cases q : KS = "fork"
    · simp [e', ea, ht, i1, hla, hk, q]
    · simp [e', ea, ht, i1, hla, hk, q]
  have hkf := kind_fork s
  have hns : s.stops = false := by cases s <;> first | rfl | (simp [PsOk] at hs)
  refine ⟨d1, l ++ [s], F ++ (if kindS s = "fork" then [l.length] else []), some (natI l.length), y8, y9, y10, y11, ?_, ?_, ?_, ?_⟩
  · refine g.app _ _ (by simp; omega) (fun i t ht => ?_) (fun t ht => ?_) (fun t ht => ?_) (fun i ts ht => ?_) ?_
    · match i, ht with
      | 0, ht =>
        cases ht
        cases s with
        | fork ts => intro t ht; have := hs.2.2 t ht; show _ < _ ∧ _ < _; simp only [Nat.add_zero]; omega
        | jump t => have := hs; simp only [PsOk] at this; exact .inl ⟨by simp only [Nat.add_zero]; omega, by omega⟩
        | round c t => have := hs.2; exact ⟨⟨by simp only [Nat.add_zero]; omega, by omega⟩, by simp only [Nat.add_zero]; omega⟩
        | check c v => show _ < _; simp only [Nat.add_zero]; omega
        | within c lo hi => show _ < _; simp only [Nat.add_zero]; omega
        | put c v => show _ < _; simp only [Nat.add_zero]; omega
        | bump c b m => show _ < _; simp only [Nat.add_zero]; omega
        | _ => trivial
      | i + 1, ht => simp at ht
    · rw [List.mem_singleton.mp ht]
      cases s with
      | fork ts => exact ⟨trivial, fun ts' e => by cases e; exact hs.1⟩
      | jump t => exact ⟨trivial, by simp⟩
      | round c t => exact ⟨hs.1, by simp⟩
      | check c v => exact ⟨hs, by simp⟩
      | within c lo hi => exact ⟨hs, by simp⟩
      | put c v => exact ⟨hs, by simp⟩
      | bump c b m => exact ⟨hs, by simp⟩
      | never => exact ⟨trivial, by simp⟩
      | _ => exact hs.elim
    · rw [List.mem_singleton.mp ht]
      refine ⟨?_, fun q => by rw [hns] at q; cases q⟩
      rintro rfl
      exact hs
    · match i, ht with
      | 0, ht =>
        cases ht
        refine .inr ⟨hs.1, ?_⟩
        have : kindS (.fork ts) = "fork" := rfl
        rw [this, if_pos rfl]
        simp
      | i + 1, ht => simp at ht
    · by_cases q : kindS s = "fork"
      · rw [if_pos q]
        rw [decide_eq_true q] at hkf
        cases s with
        | fork ts => have := hs.2.1; simp only [List.length_singleton]; omega
        | _ => simp at hkf
      · rw [if_neg q]
        simpa using g.f3
  · intro _; simp
  · intro h; omega
  · rw [hrun]
    have : natI (F ++ (if kindS s = "fork" then [l.length] else [])).length = .int ((F.length : Int) + (if kindS s = "fork" then 1 else 0)) := by
      unfold natI
      split <;> simp
    rw [this]
theorem row_turn (d : Dr) {last many base : Nat} (hm0 : 0 < many) (hm : many ≤ 100) (hb0 : 0 < base) (hb : base ≤ 50) (hl : last ≤ 1000) {l : List NW.Sp} {F : List Nat} (g : GenOk last many base l F) (x : PV) (y7 y8 y9 y10 y11 : Option PV) :
    After last many base l F (bRow [some d.pv, some (natI base), some (natI many), some (natI last), some (lV l), some (natI F.length), some x, y7, y8, y9, y10, y11]) x := by
  obtain ⟨w, d1, e1, hw⟩ := draw_k d 10 10 rfl (by omega) (by omega)
  obtain ⟨c, d2, e2, hc⟩ := draw_n d1 many hm0 (by omega)
  have e2' : m__law_draw [d1.pv, natI many] = .ok (natI c) [some d2.pv, some (natI many)] := e2
  have e0 := len_lV l
  have hhead : bRow [some d.pv, some (natI base), some (natI many), some (natI last), some (lV l), some (natI F.length), some x, y7, y8, y9, y10, y11] = (sIf (bE (eN (rOp pLt (rVar 7) (rVar 3)))) (sIf (bAnd (bE (eN (rOp pEq (rVar 8) (rC (.int 1))))) (bE (eN (rOp pLe (rOp pAdd (rVar 7) (rC (.int 3))) (rVar 3))))) bR1 (sIf (bAnd (bE (eN (rOp pEq (rVar 8) (rC (.int 2))))) (bE (eN (rOp pLe (rOp pAdd (rVar 7) (rC (.int 3))) (rVar 3))))) bR2 (sIf (bAnd (bE (eN (rOp pEq (rVar 8) (rC (.int 3))))) (bE (eN (rOp pLe (rOp pAdd (rVar 7) (rC (.int 6))) (rVar 3))))) bR3 (sIf (bE (eN (rOp pLt (rVar 8) (rC (.int 6))))) bR4 bR5)))) sNil) [some d2.pv, some (natI base), some (natI many), some (natI last), some (lV l), some (natI F.length), some x, some (natI l.length), some (natI w), some (natI c), y10, y11] := by
    unfold bRow
    generalize lV l = L1 at *
    generalize (sIf (bE (eN (rOp pLt (rVar 7) (rVar 3)))) (sIf (bAnd (bE (eN (rOp pEq (rVar 8) (rC (.int 1))))) (bE (eN (rOp pLe (rOp pAdd (rVar 7) (rC (.int 3))) (rVar 3))))) bR1 (sIf (bAnd (bE (eN (rOp pEq (rVar 8) (rC (.int 2))))) (bE (eN (rOp pLe (rOp pAdd (rVar 7) (rC (.int 3))) (rVar 3))))) bR2 (sIf (bAnd (bE (eN (rOp pEq (rVar 8) (rC (.int 3))))) (bE (eN (rOp pLe (rOp pAdd (rVar 7) (rC (.int 6))) (rVar 3))))) bR3 (sIf (bE (eN (rOp pLt (rVar 8) (rC (.int 6))))) bR4 bR5)))) sNil) = BB at *
    have jc : (natI c).imm = true := rfl
    have jm : (natI many).imm = true := rfl
    generalize natI c = C at *
    generalize natI many = M at *
    simp [e0, e1, e2', natI, jc, jm]
  rw [hhead]
  by_cases hlt : l.length < last
  · have hlt' : (l.length : Int) < (last : Int) := by omega
    by_cases k1 : w = 1 ∧ l.length + 3 ≤ last
    · obtain ⟨rfl, k1⟩ := k1
      have k1' : (l.length : Int) + 3 ≤ (last : Int) := by omega
      refine (r1 d2 hm0 hm hb0 hb hl g k1 x (some (natI 1)) (some (natI c)) y10 y11).eq ?_
      generalize lV l = L1
      generalize bR1 = B1
      simp [natI, hlt', k1']
    · by_cases k2 : w = 2 ∧ l.length + 3 ≤ last
      · obtain ⟨rfl, k2⟩ := k2
        have k2' : (l.length : Int) + 3 ≤ (last : Int) := by omega
        refine (r2 d2 hm0 hm hb0 hb hl g k2 x hc (some (natI 2)) y10 y11).eq ?_
        generalize lV l = L1
        generalize bR2 = B1
        simp [natI, hlt', k2']
      · by_cases k3 : w = 3 ∧ l.length + 6 ≤ last
        · obtain ⟨rfl, k3⟩ := k3
          have k3' : (l.length : Int) + 6 ≤ (last : Int) := by omega
          refine (r3 d2 hm0 hm hb0 hb hl g k3 x hc (some (natI 3)) y10 y11).eq ?_
          generalize lV l = L1
          generalize bR3 = B1
          simp [natI, hlt', k3']
        · have q1 : ¬ ((w : Int) = 1 ∧ (l.length : Int) + 3 ≤ (last : Int)) := by omega
          have q2 : ¬ ((w : Int) = 2 ∧ (l.length : Int) + 3 ≤ (last : Int)) := by omega
          have q3 : ¬ ((w : Int) = 3 ∧ (l.length : Int) + 6 ≤ (last : Int)) := by omega
          by_cases k4 : w < 6
          · have k4' : (w : Int) < 6 := by omega
            refine (r4 d2 hm0 hm hb0 hb hl g hlt x (some (natI w)) (some (natI c)) y10 y11).eq ?_
            generalize lV l = L1
            generalize bR4 = B1
            simp only [sIf_ap, bAnd_ap, bE_ap, eN, rOp_ap, rVar_ap, rC_ap, natI]
            by_cases a1 : w = 1
            · have a1' : (w : Int) = 1 := by omega
              have a2' : ¬ ((l.length : Int) + 3 ≤ (last : Int)) := by omega
              simp [hlt', a1', a2']
            · have a1' : ¬ ((w : Int) = 1) := by omega
              by_cases a2 : w = 2
              · have a2' : (w : Int) = 2 := by omega
                have a3' : ¬ ((l.length : Int) + 3 ≤ (last : Int)) := by omega
                simp [hlt', a2', a3']
              · have a2' : ¬ ((w : Int) = 2) := by omega
                by_cases a3 : w = 3
                · have a3' : (w : Int) = 3 := by omega
                  have a4' : ¬ ((l.length : Int) + 6 ≤ (last : Int)) := by omega
                  simp [hlt', a3', a4']
                · have a3' : ¬ ((w : Int) = 3) := by omega
                  simp [hlt', a1', a2', a3', k4']
          · have k4' : ¬ ((w : Int) < 6) := by omega
            refine (r5 d2 hm0 hm hb0 hb hl g hlt x (some (natI w)) (some (natI c)) y10 y11).eq ?_
            generalize lV l = L1
            generalize bR5 = B1
            have a1' : ¬ ((w : Int) = 1) := by omega
            have a2' : ¬ ((w : Int) = 2) := by omega
            have a3' : ¬ ((w : Int) = 3) := by omega
            simp [natI, hlt', a1', a2', a3', k4']
  · have hlt' : ¬ ((l.length : Int) < (last : Int)) := by omega
    refine ⟨d2, l, F, some (natI l.length), some (natI w), some (natI c), y10, y11, g, fun h => absurd h hlt, fun h => h, ?_⟩
    generalize lV l = L1
    simp [natI, hlt']
theorem rowL {last many base : Nat} (hm0 : 0 < many) (hm : many ≤ 100) (hb0 : 0 < base) (hb : base ≤ 50) (hl : last ≤ 1000) : ∀ (xs : List PV) (d : Dr) (l : List NW.Sp) (F : List Nat) (y6 y7 y8 y9 y10 y11 : Option PV), GenOk last many base l F → last ≤ l.length + xs.length → ∃ (d' : Dr) (l' : List NW.Sp) (F' : List Nat) (z5 : PV) (z6 z7 z8 z9 z10 z11 : Option PV), GenOk last many base l' F' ∧ l'.length = last ∧
    forL (tgN 6) bRow xs [some d.pv, some (natI base), some (natI many), some (natI last), some (lV l), some (natI F.length), y6, y7, y8, y9, y10, y11] = .next [some d'.pv, some (natI base), some (natI many), some (natI last), some (lV l'), some z5, z6, z7, z8, z9, z10, z11]
  | [], d, l, F, y6, y7, y8, y9, y10, y11, g, hx => ⟨d, l, F, _, y6, y7, y8, y9, y10, y11, g, by have := g.len; simp only [List.length_nil] at hx; omega, rfl⟩
  | x :: xs, d, l, F, y6, y7, y8, y9, y10, y11, g, hx => by
    simp only [List.length_cons] at hx
    obtain ⟨d1, l1, F1, z7, z8, z9, z10, z11, g1, h1, h2, e⟩ := row_turn d hm0 hm hb0 hb hl g x y7 y8 y9 y10 y11
    have hg := g.len
    obtain ⟨d2, l2, F2, v5, v6, v7, v8, v9, v10, v11, g2, h3, e2⟩ := rowL hm0 hm hb0 hb hl xs d1 l1 F1 (some x) z7 z8 z9 z10 z11 g1 (by
      by_cases q : l.length < last
      · have := h1 q; omega
      · have := h2 (by omega); omega)
    refine ⟨d2, l2, F2, v5, v6, v7, v8, v9, v10, v11, g2, h3, ?_⟩
    rw [forL_at (e := [some d.pv, some (natI base), some (natI many), some (natI last), some (lV l), some (natI F.length), some x, y7, y8, y9, y10, y11]) rfl, e, loopK_next, e2]
def worldV (base many : Nat) (ss : List NW.Sp) : PV := .tup [natI base, natI many, stepsV ss]
theorem row_r (d : Dr) : ∃ (d' : Dr) (base many : Nat) (l : List NW.Sp) (F : List Nat), 0 < many ∧ many ≤ 100 ∧ 0 < base ∧ base ≤ 50 ∧ GenOk l.length many base l F ∧ l.length ≤ 15 ∧
    m__law_row_of_steps [d.pv] = .ok (worldV base many (l ++ [.fin])) [some d'.pv] := by
  obtain ⟨b, d1, e1, hb⟩ := draw_k d 7 7 rfl (by omega) (by omega)
  obtain ⟨m, d2, e2, hm⟩ := draw_k d1 5 5 rfl (by omega) (by omega)
  obtain ⟨n, d3, e3, hn⟩ := draw_k d2 11 11 rfl (by omega) (by omega)
  have g0 : GenOk (4 + n) (1 + m) (2 + b : Nat) [] [] := ⟨by simp, by simp, by simp, by simp, by simp, by simp⟩
  have hlen : (rngL 0 (4 + n)).length = 4 + n := ints_len _ _
  obtain ⟨d4, l, F, z5, z6, z7, z8, z9, z10, z11, g, h1, e4⟩ := rowL (by omega) (by omega) (by omega) (by omega) (by omega) (rngL 0 (4 + n)) d3 [] [] none none none none none none g0 (by rw [hlen]; simp)
  refine ⟨d4, 2 + b, 1 + m, l, F, by omega, by omega, by omega, by omega, by rw [h1]; exact g, by omega, ?_⟩
  have hk : rngOk ((4 : Int) + n) := rngOk_of (by omega) (by omega)
  have eb : natI (2 + b) = .int (2 + (b : Int)) := by unfold natI; congr 1
  have em : natI (1 + m) = .int (1 + (m : Int)) := by unfold natI; congr 1
  have el : natI (4 + n) = .int (4 + (n : Int)) := by unfold natI; congr 1
  have ef : natI ([] : List Nat).length = .int 0 := rfl
  have e0 : lV [] = .lst [] := rfl
  rw [eb, em, el, ef, e0] at e4
  have hi : immL (l.map stV) = true := immL_map _ _ fun s _ => stV_imm s
  have ht : pTuple [lV l] = some (.tup (l.map stV)) := by
    unfold lV; rw [pTuple_l, if_pos hi]
  have hz : (l.map stV).length + 1 ≤ sizeLine := le_size (by rw [List.length_map]; omega)
  have hw : worldV (2 + b) (1 + m) (l ++ [.fin]) = .tup [.int (2 + (b : Int)), .int (1 + (m : Int)), .tup (l.map stV ++ [.tup [.str "end"]])] := by
    unfold worldV stepsV
    rw [eb, em, List.map_append]
    rfl
  have htn : ((4 : Int) + n).toNat = 4 + n := by omega
  have z1 : 1 ≤ sizeLine := le_size (by omega)
  have z3 : 3 ≤ sizeLine := le_size (by omega)
  unfold m__law_row_of_steps
  rw [fnM_at rfl, row_is, hw]
  generalize l.map stV = LS at *
  generalize lV l = L1 at *
  simp [e1, e2, e3, hk, htn, e4, ht, hi, hz, z1, z3]
end K28

/-! N28: the law. -/
namespace K28
open PySem PySem.Spec L2 PVL NW
def cSt : BM := bE (eOp pIn (gOwn (eR (rOp pIx (rOp pIx (rVar 6) (rVar 7)) (rC (.int 0))))) (gOwn (eTup (aCons (gOwn (eC (.str "cell"))) (aCons (gOwn (eC (.str "any"))) (aCons (gOwn (eC (.str "keep"))) (aCons (gOwn (eC (.str "tell"))) (aCons (gOwn (eC (.str "end"))) (aNil)))))))))
theorem standing_is : b_m__law_standing = sSeq (sAsg (eVar 1) (tgT 3 (tgsCons (tgN 4) (tgsCons (tgN 5) (tgsCons (tgN 6) (tgsNil)))))) (sSeq (sAsg (eLC (itR1 (aCons (gOwn (eN (rCl pLen (raCons (rVar 6) (raNil))))) (aNil))) [7] (tgN 7) cSt (eVar 7)) (tgN 2)) (sSeq (sAsg (eCall m__law_pick (aCons (gRef 0) (aCons (gOwn (eLst (aCons (gOwn (eC (.int 7))) (aCons (gOwn (eC (.int 60))) (aCons (gOwn (eC (.int 3))) (aNil)))))) (aNil)))) (tgN 3)) (sRet (eTup (aCons (gOwn (eCall m__law_pick (aCons (gRef 0) (aCons (gRef 2) (aNil))))) (aCons (gOwn (eCl pTuple (aCons (gOwn (eLC (itR1 (aCons (gRef 5) (aNil))) [7] (tgN 7) (bYes) (eCall m__law_draw (aCons (gRef 0) (aCons (gRef 3) (aNil)))))) (aNil)))) (aNil))))))) := rfl
def bTn : SM := sSeq (sIf (bNot (bE (eCall m__law_holds (aCons (gRef 3) (aCons (gOwn (eCall m__law_standing (aCons (gRef 1) (aCons (gRef 3) (aNil))))) (aNil)))))) (sRet (eC (.bl false))) (sNil)) (sIf (bNot (bE (eCall m__law_holds (aCons (gRef 2) (aCons (gOwn (eCall m__law_standing (aCons (gRef 1) (aCons (gRef 2) (aNil))))) (aNil)))))) (sRet (eC (.bl false))) (sNil))
theorem law_is : b_m_law = sSeq (sAsg (eCall m__law_begin (aCons (gRef 0) (aNil))) (tgN 1)) (sSeq (sAsg (eCall m__law_row_of_steps (aCons (gRef 1) (aNil))) (tgN 2)) (sSeq (sAsg (eCall m__law_row_of_steps (aCons (gRef 1) (aNil))) (tgN 3)) (sSeq (sAsg (eCall m__law_standing (aCons (gRef 1) (aCons (gRef 2) (aNil)))) (tgN 4)) (sSeq (sIf (bNot (bE (eCall m__law_holds (aCons (gRef 2) (aCons (gRef 4) (aNil)))))) (sRet (eC (.bl false))) (sNil)) (sSeq (sFor (itR1 (aCons (gOwn (eC (.int 3))) (aNil))) (tgN 5) bTn) (sSeq (sAsg (eTup (aCons (gOwn (eN (rOp pSub (rCl pLen (raCons (rOp pIx (rVar 2) (rC (.int 2))) (raNil))) (rC (.int 1))))) (aCons (gOwn (eR (rOp pIx (rVar 4) (rC (.int 1))))) (aNil)))) (tgN 6)) (sRet (eAnd (eOp pEq (gOwn (eCall m_moves (aCons (gOwn (eR (rOp pIx (rVar 2) (rC (.int 2))))) (aCons (gOwn (eR (rOp pIx (rVar 2) (rC (.int 0))))) (aCons (gRef 6) (aNil)))))) (gOwn (eTup (aNil)))) (eAnd (eCall m__law_holds (aCons (gRef 2) (aCons (gRef 6) (aNil)))) (eCall m__law_holds (aCons (gRef 2) (aCons (gRef 4) (aNil))))))))))))) := rfl
theorem cSt_r {ss : List NW.Sp} {q : Nat} {s : NW.Sp} (h : ss[q]? = some s) (y0 y1 y2 y3 y4 y5 : Option PV) : cSt [y0, y1, y2, y3, y4, y5, some (stepsV ss), some (natI q)] = .ok s.stops [y0, y1, y2, y3, y4, y5, some (stepsV ss), some (natI q)] := by
  have e1 := step_at h
  have k1 := kind_at s
  have k2 := in_stop (kindS s)
  have k3 := kind_stopL s
  have z5 : 5 ≤ sizeLine := le_size (by omega)
  have i2 := stV_imm s
  rw [← k3] at k2
  generalize stepsV ss = SS at *
  generalize stV s = SV at *
  simp [cSt, natI, e1, k1, k2, z5, i2]
theorem plL {ss : List NW.Sp} (hn : ss.length ≤ 1000) (y0 y1 y2 y3 y4 y5 : Option PV) : ∀ (n k : Nat) (acc : List Nat), k + n = ss.length → acc.length + n ≤ 1000 → ∃ ps : List Nat, (∀ q ∈ ps, ∃ s, ss[q]? = some s ∧ s.stops = true) ∧ (∀ q s, k ≤ q → ss[q]? = some s → s.stops = true → q ∈ ps) ∧ acc.length + ps.length ≤ 1000 ∧
    lcL [7] (tgN 7) cSt (eVar 7) ((List.range n).map fun i => .int ((k : Int) + (i : Nat))) (acc.map natI) [y0, y1, y2, y3, y4, y5, some (stepsV ss), none] = .ok (.lst ((acc ++ ps).map natI)) [y0, y1, y2, y3, y4, y5, some (stepsV ss), none]
  | 0, k, acc, hk, ha => by
    refine ⟨[], by simp, fun q s hq hs _ => ?_, by simpa using ha, by simp⟩
    obtain ⟨h, _⟩ := List.getElem?_eq_some_iff.mp hs
    omega
  | n + 1, k, acc, hk, ha => by
    have hkt : k < ss.length := by omega
    have ht : ss[k]? = some ss[k] := List.getElem?_eq_getElem hkt
    have er : ((List.range (n + 1)).map fun i => PV.int ((k : Int) + (i : Nat))) = natI k :: ((List.range n).map fun i => PV.int (((k + 1 : Nat) : Int) + (i : Nat))) := by
      rw [List.range_succ_eq_map, List.map_cons, List.map_map]
      have e0 : PV.int ((k : Int) + ((0 : Nat) : Int)) = natI k := by unfold natI; congr 1
      have e1 : (List.range n).map ((fun i => PV.int ((k : Int) + (i : Nat))) ∘ Nat.succ) = (List.range n).map fun i => PV.int (((k + 1 : Nat) : Int) + (i : Nat)) := by
        refine List.map_congr_left fun i _ => ?_
        show PV.int ((k : Int) + ((i + 1 : Nat) : Int)) = PV.int (((k + 1 : Nat) : Int) + (i : Nat))
        congr 1; omega
      rw [e0, e1]
    have et : tgN 7 (natI k) [y0, y1, y2, y3, y4, y5, some (stepsV ss), none] = some [y0, y1, y2, y3, y4, y5, some (stepsV ss), some (natI k)] := rfl
    have hc := cSt_r ht y0 y1 y2 y3 y4 y5
    rw [er, lcL_cons, et]
    simp only [hc]
    cases hst : (ss[k]).stops with
    | false =>
      obtain ⟨ps, h1, h2, h3, e⟩ := plL hn y0 y1 y2 y3 y4 y5 n (k + 1) acc (by omega) (by omega)
      refine ⟨ps, h1, fun q s hq hs hss => ?_, h3, ?_⟩
      · by_cases hqk : q = k
        · subst hqk; rw [ht] at hs; cases hs; rw [hst] at hss; cases hss
        · exact h2 q s (by omega) hs hss
      · simp only [Bool.false_eq_true, if_false]
        exact e
    | true =>
      obtain ⟨ps, h1, h2, h3, e⟩ := plL hn y0 y1 y2 y3 y4 y5 n (k + 1) (acc ++ [k]) (by omega) (by rw [List.length_append, List.length_singleton]; omega)
      rw [List.length_append, List.length_singleton] at h3
      refine ⟨k :: ps, fun q hq => ?_, fun q s hq hs hss => ?_, by simp only [List.length_cons]; omega, ?_⟩
      · rcases List.mem_cons.mp hq with rfl | hq
        · exact ⟨_, ht, hst⟩
        · exact h1 q hq
      · by_cases hqk : q = k
        · exact hqk ▸ List.mem_cons_self
        · exact List.mem_cons_of_mem _ (h2 q s (by omega) hs hss)
      · have hz : (acc.map natI).length < sizeLine := lt_size (by rw [List.length_map]; omega)
        have hi : (natI k).imm = true := rfl
        have hv : eVar 7 [y0, y1, y2, y3, y4, y5, some (stepsV ss), some (natI k)] = .ok (natI k) [y0, y1, y2, y3, y4, y5, some (stepsV ss), some (natI k)] := by
          generalize stepsV ss = SS
          simp [hi]
        simp only [if_true, hv, if_pos hz]
        rw [List.map_append] at e
        refine Eq.trans e ?_
        rw [List.append_assoc]
        rfl
theorem drL {gr : Nat} (hg0 : 0 < gr) (hg : gr ≤ 1000) (y1 y2 y4 y5 y6 : Option PV) : ∀ (xs : List PV) (d : Dr) (acc : List Int), acc.length + xs.length ≤ 1000 → NN acc → ∃ (d' : Dr) (g : List Int), NN g ∧ g.length = acc.length + xs.length ∧
    lcL [7] (tgN 7) bYes (eCall m__law_draw (aCons (gRef 0) (aCons (gRef 3) (aNil)))) xs (acc.map .int) [some d.pv, y1, y2, some (natI gr), y4, y5, y6, none] = .ok (.lst (g.map .int)) [some d'.pv, y1, y2, some (natI gr), y4, y5, y6, none]
  | [], d, acc, hl, hn => ⟨d, acc, hn, by simp, rfl⟩
  | x :: xs, d, acc, hl, hn => by
    simp only [List.length_cons] at hl
    obtain ⟨r, d1, e1, hr⟩ := draw_n d gr hg0 (by omega)
    have e1' : m__law_draw [d.pv, natI gr] = .ok (natI r) [some d1.pv, some (natI gr)] := e1
    obtain ⟨d2, g, h1, h2, e2⟩ := drL hg0 hg y1 y2 y4 y5 y6 xs d1 (acc ++ [(r : Int)]) (by rw [List.length_append, List.length_singleton]; omega) (fun v hv => by
      rcases List.mem_append.mp hv with hv | hv
      · exact hn v hv
      · rw [List.mem_singleton.mp hv]; omega)
    refine ⟨d2, g, h1, by rw [h2, List.length_append, List.length_singleton, List.length_cons]; omega, ?_⟩
    have et : tgN 7 x [some d.pv, y1, y2, some (natI gr), y4, y5, y6, none] = some [some d.pv, y1, y2, some (natI gr), y4, y5, y6, some x] := rfl
    have hc : eCall m__law_draw (aCons (gRef 0) (aCons (gRef 3) (aNil))) [some d.pv, y1, y2, some (natI gr), y4, y5, y6, some x] = .ok (natI r) [some d1.pv, y1, y2, some (natI gr), y4, y5, y6, some x] := by
      have j : (natI gr).imm = true := rfl
      generalize natI gr = G at *
      simp [e1', j]
    have hz : (acc.map PV.int).length < sizeLine := lt_size (by rw [List.length_map]; omega)
    rw [lcL_cons, et]
    simp only [bYes_ap, if_true, hc, if_pos hz]
    rw [List.map_append] at e2
    exact e2
/-- a drawn row and what it is -/
structure DrawnW (base many : Nat) (ss : List NW.Sp) : Prop where
  ok : ∃ w, AllOk ss many base w
  base1 : base ≤ 50
  many0 : 0 < many
  many1 : many ≤ 100
  fin : ss[ss.length - 1]? = some .fin
  pos : 0 < ss.length
theorem world_r (d : Dr) : ∃ (d' : Dr) (base many : Nat) (ss : List NW.Sp), DrawnW base many ss ∧ m__law_row_of_steps [d.pv] = .ok (worldV base many ss) [some d'.pv] := by
  obtain ⟨d', base, many, l, F, h1, h2, h3, h4, g, h5, e⟩ := row_r d
  refine ⟨d', base, many, l ++ [.fin], ⟨⟨wF F, g.all h5 h2 h3 (by omega)⟩, h4, h1, h2, ?_, by simp⟩, e⟩
  rw [List.length_append, List.length_singleton, Nat.add_sub_cancel, List.getElem?_append_right (Nat.le_refl _), Nat.sub_self]
  rfl
theorem world_imm (base many : Nat) (ss : List NW.Sp) : (worldV base many ss).imm = true := by
  unfold worldV
  rw [imm_tup]
  simp [immL, steps_imm, natI]
theorem standing_r (d : Dr) {base many : Nat} {ss : List NW.Sp} (hw : DrawnW base many ss) : ∃ (d' : Dr) (q : Nat) (s : NW.Sp) (g : List Int), ss[q]? = some s ∧ s.stops = true ∧ g.length = many ∧ NN g ∧
    m__law_standing [d.pv, worldV base many ss] = .ok (standV q g) [some d'.pv, some (worldV base many ss)] := by
  obtain ⟨w, ha⟩ := hw.ok
  have hm0 := hw.many0
  have hm1 := hw.many1
  have hln := ha.len
  obtain ⟨ps, h1, h2, h3, e1⟩ := plL (ss := ss) (by omega) (some d.pv) (some (worldV base many ss)) none none (some (natI base)) (some (natI many)) ss.length 0 [] (by omega) (by simp; omega)
  have hps : 0 < ps.length := List.length_pos_of_mem (h2 _ _ (by omega) hw.fin rfl)
  simp only [List.length_nil] at h3
  obtain ⟨gx, d1, hgx, e2⟩ := pick_mem d [.int 7, .int 60, .int 3] (by simp) (by simp) (by simp)
  obtain ⟨gr, hg0, hg1, rfl⟩ : ∃ gr : Nat, 0 < gr ∧ gr ≤ 1000 ∧ gx = natI gr := by
    simp only [List.mem_cons, List.not_mem_nil, or_false] at hgx
    rcases hgx with h | h | h
    · exact ⟨7, by omega, by omega, h⟩
    · exact ⟨60, by omega, by omega, h⟩
    · exact ⟨3, by omega, by omega, h⟩
  have hpi : immL (ps.map natI) = true := immL_map _ _ fun _ _ => rfl
  obtain ⟨qx, d2, hqx, e3⟩ := pick_mem d1 (ps.map natI) (by rw [List.length_map]; omega) (by rw [List.length_map]; omega) hpi
  obtain ⟨q, hq, rfl⟩ := List.mem_map.mp hqx
  obtain ⟨s, hs, hss⟩ := h1 q hq
  obtain ⟨d3, g, hn, hgl, e4⟩ := drL hg0 hg1 (some (worldV base many ss)) (some (.lst (ps.map natI))) (some (natI base)) (some (natI many)) (some (stepsV ss)) (rngL 0 many) d2 [] (by
    unfold rngL; rw [List.length_map, List.length_range, List.length_nil]; omega) (by intro x hx; simp at hx)
  have hgl' : g.length = many := by
    rw [hgl]
    unfold rngL
    simp
  refine ⟨d3, q, s, g, hs, hss, hgl', hn, ?_⟩
  have er : ((List.range ss.length).map fun i => PV.int (((0 : Nat) : Int) + (i : Nat))) = rngL 0 ss.length := rfl
  rw [er] at e1
  have ez : ([] : List Nat).map natI = [] := rfl
  rw [ez, List.nil_append] at e1
  have ez2 : ([] : List Int).map PV.int = [] := rfl
  rw [ez2] at e4
  have i1 := world_imm base many ss
  have i2 := steps_imm ss
  have hlen : pLen [stepsV ss] = some (.int (ss.length : Int)) := by
    show some (PV.int (ss.map stV).length) = _
    rw [List.length_map]
  have hk : rngOk (ss.length : Int) := rngOk_of (by omega) (by omega)
  have hk2 : rngOk (many : Int) := rngOk_of (by omega) (by omega)
  have hgi : immL (g.map PV.int) = true := immL_map _ _ fun _ _ => rfl
  have z3 : 3 ≤ sizeLine := le_size (by omega)
  have z2 : 2 ≤ sizeLine := le_size (by omega)
  have hst : standV q g = .tup [natI q, .tup (g.map .int)] := rfl
  have hwd : worldV base many ss = .tup [natI base, natI many, stepsV ss] := rfl
  have jq : (natI q).imm = true := rfl
  have jb : (natI base).imm = true := rfl
  have jg : (natI gr).imm = true := rfl
  unfold m__law_standing
  rw [fnM_at rfl, standing_is, hst]
  have hnm : natI many = .int (many : Int) := rfl
  simp only [hwd, hnm] at e1 e4 ⊢
  generalize ps.map natI = PS at *
  generalize g.map PV.int = GV at *
  generalize stepsV ss = SS at *
  generalize natI q = Q at *
  generalize natI base = B at *
  generalize natI gr = GR at *
  simp [e1, e2, e3, e4, i2, hlen, hk, hk2, hgi, hpi, z3, z2, jq, jb, jg]
theorem ways_ch {α : Type} (f : α → NW.Bh α) : ∀ (n : Nat) (a : α) (w : List Nat × α), w ∈ ways f n a → w.1.length ≤ n
  | 0, _, w, h => by simp [ways] at h
  | n + 1, a, w, h => by
    rw [ways] at h
    cases e : f a with
    | fin => rw [e] at h; rw [List.mem_singleton.mp h]; simp
    | fork ts =>
      rw [e] at h
      obtain ⟨l, hl, hw⟩ := List.mem_flatten.mp h
      obtain ⟨t, ht, rfl⟩ := List.mem_map.mp hl
      obtain ⟨v, hv, rfl⟩ := List.mem_map.mp hw
      have := ways_ch f n t.1 v hv
      simp only [List.length_cons]; omega
    | pass ts =>
      rw [e] at h
      obtain ⟨l, hl, hw⟩ := List.mem_flatten.mp h
      obtain ⟨t, ht, rfl⟩ := List.mem_map.mp hl
      have := ways_ch f n t w hw
      omega
theorem ways_many {ss : List NW.Sp} {many : Nat} (ho : SsOk ss many) : ∀ (m c : Nat) (x : NW.Nd NW.Pl), NOk ss many c x → ∀ w ∈ ways (beh ss) m x.st, w.2.2.length = many
  | 0, c, x, hx, w, h => by simp [ways] at h
  | m + 1, c, x, hx, w, h => by
    have h1 : (x.ch ++ w.1, w.2) ∈ pre x.ch (ways (beh ss) (m + 1) x.st) := List.mem_map.mpr ⟨w, h, rfl⟩
    rw [one_sum] at h1
    rcases List.mem_append.mp h1 with h1 | h1
    · unfold isFin at h1
      split at h1
      · have := List.mem_singleton.mp h1
        have h2 : w.2 = x.st := (Prod.mk.inj this).2
        rw [h2]; exact hx.2.1
      · simp at h1
    · obtain ⟨l, hl, hw⟩ := List.mem_flatten.mp h1
      obtain ⟨y, hy, rfl⟩ := List.mem_map.mp hl
      obtain ⟨v, hv, ev⟩ := List.mem_map.mp hw
      have h2 : v.2 = w.2 := (Prod.mk.inj ev).2
      rw [← h2]
      exact ways_many ho m (c + 1) y ((next_ok ho hx).1 y hy) v hv
theorem plain_ints (n : Nat) (l : List Int) (h : l.length ≤ 1000) : PVL.plain (n + 2) (.tup (l.map .int)) = true := by
  simp only [PVL.plain, Bool.and_eq_true, decide_eq_true_eq, List.length_map, List.all_map, List.all_eq_true]
  exact ⟨by omega, fun x _ => rfl⟩
theorem moves_plain {ss : List NW.Sp} {many : Nat} {base : Int} {w : Nat → Nat} (ha : AllOk ss many base w) {q : Nat} {s : NW.Sp} (hs : ss[q]? = some s) (h1 : s.stops = true) (h2 : s ≠ .fin) {g : List Int} (hg : g.length = many) : PVL.plain 8 (.tup (movesOf ss s base q g)) = true := by
  obtain ⟨ht, hq⟩ := ha.tk q s hs h1 h2
  have htr : ∀ cell, (trs ss q cell (cnt s base cell g)).length ≤ 1728 ∧ ∀ p ∈ trs ss q cell (cnt s base cell g), PVL.plain 7 p = true := by
    intro cell
    cases ec : cnt s base cell g with
    | none => exact ⟨by simp [trs], by simp [trs]⟩
    | some g' =>
      refine ⟨by simp only [trs, List.length_map]; exact ws_len ha hq g', fun p hp => ?_⟩
      obtain ⟨v, hv, rfl⟩ := List.mem_map.mp hp
      have hv1 := ways_ch _ _ _ v hv
      have hv2 := ways_many ha.so (2 * ss.length) 0 ⟨[], (q + 1, g')⟩ ⟨hq, by rw [cnt_len ec, hg], Nat.le_refl _⟩ v hv
      have hl := ha.len
      have hm := ha.so.many
      have p1 : PVL.plain 6 (chV v.1) = true := by
        have : chV v.1 = .tup ((chI v.1).map .int) := by unfold chV chI; rw [List.map_map]; rfl
        rw [this]
        exact plain_ints 4 _ (by unfold chI; rw [List.length_map]; omega)
      have p2 : PVL.plain 5 (heldV v.2.2) = true := plain_ints 3 _ (by omega)
      have p3 : PVL.plain 6 (plV v.2) = true := by
        unfold plV
        have e5 : PVL.plain 5 (.int (v.2.1 : Int)) = true := rfl
        show (decide _ && ([PV.int (v.2.1 : Int), heldV v.2.2].all (PVL.plain 5))) = true
        simp [p2, e5]
      unfold tri
      show (decide _ && ([PV.int cell, chV v.1, plV v.2].all (PVL.plain 6))) = true
      have e6 : PVL.plain 6 (.int cell) = true := rfl
      simp [p1, p3, e6]
  have hcl := cells_len (s := s) ha.base1 g
  have hlen : ∀ cs : List Int, ((cs.map fun cell => trs ss q cell (cnt s base cell g)).flatten).length ≤ 1728 * cs.length := by
    intro cs
    induction cs with
    | nil => simp
    | cons c cs ih =>
      rw [List.map_cons, List.flatten_cons, List.length_append, List.length_cons]
      have := (htr c).1
      omega
  show (decide _ && (movesOf ss s base q g).all (PVL.plain 7)) = true
  rw [Bool.and_eq_true, decide_eq_true_eq, List.all_eq_true]
  refine ⟨?_, fun p hp => ?_⟩
  · have := hlen (cellsOf s base g)
    unfold movesOf
    omega
  · obtain ⟨l, hl, hp⟩ := List.mem_flatten.mp hp
    obtain ⟨c, _, rfl⟩ := List.mem_map.mp hl
    exact (htr c).2 p hp
theorem stand_imm (q : Nat) (g : List Int) : (standV q g).imm = true := by
  unfold standV
  rw [imm_tup]
  simp [immL, held_imm]
theorem holds_r {base many : Nat} {ss : List NW.Sp} (hw : DrawnW base many ss) {q : Nat} {s : NW.Sp} {g : List Int} (hs : ss[q]? = some s) (h1 : s.stops = true) (hg : g.length = many) (hn : NN g) :
    m__law_holds [worldV base many ss, standV q g] = .ok (.bl true) [some (worldV base many ss), some (standV q g)] := by
  obtain ⟨w, ha⟩ := hw.ok
  have i1 := stand_imm q g
  have i2 := steps_imm ss
  have i3 := held_imm g
  have i4 := world_imm base many ss
  obtain ⟨M, e1, e2, e3⟩ : ∃ M : List PV, m__law_due [stepsV ss, natI base, natI q, heldV g] = .ok (.tup M) [some (stepsV ss), some (natI base), some (natI q), some (heldV g)] ∧ m_moves [stepsV ss, natI base, standV q g] = .ok (.tup M) [some (stepsV ss), some (natI base), some (standV q g)] ∧ PVL.plain 8 (.tup M) = true := by
    by_cases hf : s = .fin
    · subst hf
      exact ⟨[], due_fin ha.base0 ha.base1 hs g, moves_fin hs g, rfl⟩
    · exact ⟨_, due_r ha hs h1 hf hg hn, moves_r ha hs h1 hf hg, moves_plain ha hs h1 hf hg⟩
  have e4 := same_c 8 (.tup M) e3
  have hst : standV q g = .tup [natI q, heldV g] := rfl
  have hwd : worldV base many ss = .tup [natI base, natI many, stepsV ss] := rfl
  have jq : (natI q).imm = true := rfl
  have jb : (natI base).imm = true := rfl
  have jm : (natI many).imm = true := rfl
  unfold m__law_holds
  rw [fnM_at rfl]
  rw [hst] at e2 ⊢
  rw [hwd]
  generalize stepsV ss = SS at *
  generalize natI q = Q at *
  generalize natI base = B at *
  generalize natI many = MM at *
  generalize heldV g = G at *
  simp [b_m__law_holds, e1, e2, e4, i2, i3, jq, jb, jm]
theorem tnL {b1 m1 : Nat} {s1 : List NW.Sp} (w1 : DrawnW b1 m1 s1) {b2 m2 : Nat} {s2 : List NW.Sp} (w2 : DrawnW b2 m2 s2) (y0 y4 : Option PV) : ∀ (xs : List PV) (d : Dr) (y5 : Option PV), ∃ (d' : Dr) (z5 : Option PV),
    forL (tgN 5) bTn xs [y0, some d.pv, some (worldV b1 m1 s1), some (worldV b2 m2 s2), y4, y5, none] = .next [y0, some d'.pv, some (worldV b1 m1 s1), some (worldV b2 m2 s2), y4, z5, none]
  | [], d, y5 => ⟨d, y5, rfl⟩
  | x :: xs, d, y5 => by
    obtain ⟨d1, q1, t1, g1, a1, a2, a3, a4, e1⟩ := standing_r d w2
    obtain ⟨d2, q2, t2, g2, c1, c2, c3, c4, e2⟩ := standing_r d1 w1
    have e3 := holds_r w2 a1 a2 a3 a4
    have e4 := holds_r w1 c1 c2 c3 c4
    obtain ⟨d3, z5, e5⟩ := tnL w1 w2 y0 y4 xs d2 (some x)
    refine ⟨d3, z5, ?_⟩
    rw [forL_at (e := [y0, some d.pv, some (worldV b1 m1 s1), some (worldV b2 m2 s2), y4, some x, none]) rfl]
    have i1 := world_imm b1 m1 s1
    have i2 := world_imm b2 m2 s2
    have i3 := stand_imm q1 g1
    have i4 := stand_imm q2 g2
    have hb : bTn [y0, some d.pv, some (worldV b1 m1 s1), some (worldV b2 m2 s2), y4, some x, none] = .next [y0, some d2.pv, some (worldV b1 m1 s1), some (worldV b2 m2 s2), y4, some x, none] := by
      generalize worldV b1 m1 s1 = W1 at *
      generalize worldV b2 m2 s2 = W2 at *
      generalize standV q1 g1 = S1 at *
      generalize standV q2 g2 = S2 at *
      simp [bTn, e1, e2, e3, e4, i1, i2, i3, i4]
    rw [hb, loopK_next, e5]
theorem law_true : ∀ ns : List Int, ns.length ≤ 63 → ∃ e, m_law [.frz (ns.map PV.int)] = .ok (.bl true) e := by
  intro ns _
  obtain ⟨d0, e0⟩ := begin_c ns
  obtain ⟨d1, b1, m1, s1, w1, e1⟩ := world_r d0
  obtain ⟨d2, b2, m2, s2, w2, e2⟩ := world_r d1
  obtain ⟨d3, q, t, g, a1, a2, a3, a4, e3⟩ := standing_r d2 w1
  have e4 := holds_r w1 a1 a2 a3 a4
  have i0 : (PV.frz (ns.map PV.int)).imm = true := rfl
  obtain ⟨d4, z5, e5⟩ := tnL w1 w2 (some (.frz (ns.map PV.int))) (some (standV q g)) (rngL 0 3) d3 none
  have e6 := holds_r w1 w1.fin rfl a3 a4
  have e7 : m_moves [stepsV s1, natI b1, standV (s1.length - 1) g] = .ok (.tup []) [some (stepsV s1), some (natI b1), some (standV (s1.length - 1) g)] := moves_fin w1.fin g
  have i1 := world_imm b1 m1 s1
  have i2 := world_imm b2 m2 s2
  have i3 := stand_imm q g
  have i5 := stand_imm (s1.length - 1) g
  have i6 := steps_imm s1
  have i7 := held_imm g
  have hk : rngOk (3 : Int) := rngOk_of (by omega) (by omega)
  have ht3 : (3 : Int).toNat = 3 := rfl
  have x0 : pIx (worldV b1 m1 s1) (.int 0) = some (natI b1) := by unfold worldV; simp
  have x2 : pIx (worldV b1 m1 s1) (.int 2) = some (stepsV s1) := by unfold worldV; simp
  have xl : pLen [stepsV s1] = some (.int (s1.length : Int)) := by
    show some (PV.int (s1.map stV).length) = _
    rw [List.length_map]
  have xs1 : pIx (standV q g) (.int 1) = some (heldV g) := by unfold standV; simp
  have hpos := w1.pos
  have hst : standV (s1.length - 1) g = .tup [.int ((s1.length : Int) - 1), heldV g] := by
    unfold standV
    have : ((s1.length - 1 : Nat) : Int) = (s1.length : Int) - 1 := by omega
    rw [this]
  have hee : pEq (.tup []) (.tup []) = some (.bl true) := rfl
  have jb : (natI b1).imm = true := rfl
  have z2 : 2 ≤ sizeLine := le_size (by omega)
  rw [hst] at e6 e7 i5
  unfold m_law
  rw [fnM_at rfl, law_is]
  generalize ns.map PV.int = NS at *
  generalize worldV b1 m1 s1 = W1 at *
  generalize worldV b2 m2 s2 = W2 at *
  generalize standV q g = SQ at *
  generalize stepsV s1 = SS at *
  generalize heldV g = G at *
  generalize natI b1 = B1 at *
  generalize (s1.length : Int) = LN at *
  exact ⟨_, by simp [e0, e1, e2, e3, e4, e5, e6, e7, i0, i1, i2, i3, i5, i6, i7, hk, ht3, x0, x2, xl, xs1, hee, jb, z2]; rfl⟩
end K28

namespace K28
open PySem PySem.Spec L2 PVL

/-! ### what the top has written -/
theorem all_ok {w : World} {K : PySem.W.Frag} {h : Heap} {mg : Str → Option Value} {fa : Addr} (X : K.In h) (G : h.Ns mainGlobals mg) (hfa : mg "law" = some (.ref fa))
    {E_TooMany : Addr}
    {I_TooMany N_TooMany cc_TooMany cd_TooMany : Addr} {nm_TooMany qn_TooMany : Str} {bs_TooMany bm_TooMany sub_TooMany : List Value} {sn_TooMany : List Str} {ab_TooMany : Bool} {col_TooMany : Option Bool} {dd_TooMany : Option Addr} {oc_TooMany doc_TooMany pm_TooMany ct_TooMany ccl_TooMany cl_TooMany : Value} {j0_TooMany j1_TooMany j2_TooMany j3_TooMany j5_TooMany : Option Value} {od_TooMany an_TooMany cdd_TooMany cld_TooMany : Option Addr} {osl_TooMany ccs_TooMany csl_TooMany : Array (Option Value)} {vs_TooMany : Array Value} {fl_TooMany : Str} {tf_TooMany : Tok}
    {u_MOST_WAYS : Value}
    {u_TAKING : Value}
    {h__law_begin : Addr} {oc_f_law_begin kV_f_law_begin dc_f_law_begin pm_f_law_begin cd_f_law_begin ct_f_law_begin : Value} {od_f_law_begin an_f_law_begin : Option Addr} {sl_f_law_begin : Array (Option Value)}
    {h__law_draw : Addr} {oc_f_law_draw kV_f_law_draw dc_f_law_draw pm_f_law_draw cd_f_law_draw ct_f_law_draw : Value} {od_f_law_draw an_f_law_draw : Option Addr} {sl_f_law_draw : Array (Option Value)}
    {h__law_pick : Addr} {oc_f_law_pick kV_f_law_pick dc_f_law_pick pm_f_law_pick cd_f_law_pick ct_f_law_pick : Value} {od_f_law_pick an_f_law_pick : Option Addr} {sl_f_law_pick : Array (Option Value)}
    {h__law_taking : Addr} {oc_f_law_taking kV_f_law_taking dc_f_law_taking pm_f_law_taking cd_f_law_taking ct_f_law_taking : Value} {od_f_law_taking an_f_law_taking : Option Addr} {sl_f_law_taking : Array (Option Value)}
    {h__law_rare : Addr} {oc_f_law_rare kV_f_law_rare dc_f_law_rare pm_f_law_rare cd_f_law_rare ct_f_law_rare : Value} {od_f_law_rare an_f_law_rare : Option Addr} {sl_f_law_rare : Array (Option Value)}
    {h__law_passing : Addr} {oc_f_law_passing kV_f_law_passing dc_f_law_passing pm_f_law_passing cd_f_law_passing ct_f_law_passing : Value} {od_f_law_passing an_f_law_passing : Option Addr} {sl_f_law_passing : Array (Option Value)}
    {h__law_row_of_steps : Addr} {oc_f_law_row_of_steps kV_f_law_row_of_steps dc_f_law_row_of_steps pm_f_law_row_of_steps cd_f_law_row_of_steps ct_f_law_row_of_steps : Value} {od_f_law_row_of_steps an_f_law_row_of_steps : Option Addr} {sl_f_law_row_of_steps : Array (Option Value)}
    {h__law_standing : Addr} {oc_f_law_standing kV_f_law_standing dc_f_law_standing pm_f_law_standing cd_f_law_standing ct_f_law_standing : Value} {od_f_law_standing an_f_law_standing : Option Addr} {sl_f_law_standing : Array (Option Value)}
    {h__law_is_int : Addr} {oc_f_law_is_int kV_f_law_is_int dc_f_law_is_int pm_f_law_is_int cd_f_law_is_int ct_f_law_is_int : Value} {od_f_law_is_int an_f_law_is_int : Option Addr} {sl_f_law_is_int : Array (Option Value)}
    {h__law_same : Addr} {oc_f_law_same kV_f_law_same dc_f_law_same pm_f_law_same cd_f_law_same ct_f_law_same : Value} {od_f_law_same an_f_law_same : Option Addr} {sl_f_law_same : Array (Option Value)}
    {h__law_lifted : Addr} {oc_f_law_lifted kV_f_law_lifted dc_f_law_lifted pm_f_law_lifted cd_f_law_lifted ct_f_law_lifted : Value} {od_f_law_lifted an_f_law_lifted : Option Addr} {sl_f_law_lifted : Array (Option Value)}
    {h__law_behind : Addr} {oc_f_law_behind kV_f_law_behind dc_f_law_behind pm_f_law_behind cd_f_law_behind ct_f_law_behind : Value} {od_f_law_behind an_f_law_behind : Option Addr} {sl_f_law_behind : Array (Option Value)}
    {h__law_onward : Addr} {oc_f_law_onward kV_f_law_onward dc_f_law_onward pm_f_law_onward cd_f_law_onward ct_f_law_onward : Value} {od_f_law_onward an_f_law_onward : Option Addr} {sl_f_law_onward : Array (Option Value)}
    {h__law_ways : Addr} {oc_f_law_ways kV_f_law_ways dc_f_law_ways pm_f_law_ways cd_f_law_ways ct_f_law_ways : Value} {od_f_law_ways an_f_law_ways : Option Addr} {sl_f_law_ways : Array (Option Value)}
    {h__law_due : Addr} {oc_f_law_due kV_f_law_due dc_f_law_due pm_f_law_due cd_f_law_due ct_f_law_due : Value} {od_f_law_due an_f_law_due : Option Addr} {sl_f_law_due : Array (Option Value)}
    {h_cells_for : Addr} {oc_fcells_for kV_fcells_for dc_fcells_for pm_fcells_for cd_fcells_for ct_fcells_for : Value} {od_fcells_for an_fcells_for : Option Addr} {sl_fcells_for : Array (Option Value)}
    {h_raised_by : Addr} {oc_fraised_by kV_fraised_by dc_fraised_by pm_fraised_by cd_fraised_by ct_fraised_by : Value} {od_fraised_by an_fraised_by : Option Addr} {sl_fraised_by : Array (Option Value)}
    {h_counted : Addr} {oc_fcounted kV_fcounted dc_fcounted pm_fcounted cd_fcounted ct_fcounted : Value} {od_fcounted an_fcounted : Option Addr} {sl_fcounted : Array (Option Value)}
    {h_with_content : Addr} {oc_fwith_content kV_fwith_content dc_fwith_content pm_fwith_content cd_fwith_content ct_fwith_content : Value} {od_fwith_content an_fwith_content : Option Addr} {sl_fwith_content : Array (Option Value)}
    {h_passed : Addr} {oc_fpassed kV_fpassed dc_fpassed pm_fpassed cd_fpassed ct_fpassed : Value} {od_fpassed an_fpassed : Option Addr} {sl_fpassed : Array (Option Value)}
    {h_settle : Addr} {oc_fsettle kV_fsettle dc_fsettle pm_fsettle cd_fsettle ct_fsettle : Value} {od_fsettle an_fsettle : Option Addr} {sl_fsettle : Array (Option Value)}
    {h_moves : Addr} {oc_fmoves kV_fmoves dc_fmoves pm_fmoves cd_fmoves ct_fmoves : Value} {od_fmoves an_fmoves : Option Addr} {sl_fmoves : Array (Option Value)}
    {h__law_holds : Addr} {oc_f_law_holds kV_f_law_holds dc_f_law_holds pm_f_law_holds cd_f_law_holds ct_f_law_holds : Value} {od_f_law_holds an_f_law_holds : Option Addr} {sl_f_law_holds : Array (Option Value)}
    {h_law : Addr} {oc_flaw kV_flaw dc_flaw pm_flaw cd_flaw ct_flaw : Value} {od_flaw an_flaw : Option Addr} {sl_flaw : Array (Option Value)}
    (a_TooMany : PySem.W.nsIn K mainGlobals "TooMany" = some (some (.ref E_TooMany)))
    (x1_TooMany : K.lookup E_TooMany = some (excClassObj nm_TooMany qn_TooMany E_TooMany N_TooMany bs_TooMany bm_TooMany true sn_TooMany sub_TooMany ab_TooMany col_TooMany dd_TooMany j0_TooMany j1_TooMany j2_TooMany j3_TooMany j5_TooMany "ValueError.__new__"))
    (x2_TooMany : PySem.HandSPX.refsVE bm_TooMany = true)
    (x3_TooMany : PySem.W.findIn K (.ref E_TooMany) "__setattr__" = some (some (.builtin "object.__setattr__")))
    (x4_TooMany : PySem.W.findIn K (.ref E_TooMany) "__getattribute__" = some (some (.builtin "BaseException.__getattribute__")))
    (x5_TooMany : PySem.W.findIn K (.ref E_TooMany) "__getattr__" = some none)
    (x6_TooMany_what : PySem.W.findIn K (.ref E_TooMany) "what" = some none)
    (x7_TooMany : PySem.W.findIn K (.ref E_TooMany) "__init__" = some (some (.ref I_TooMany)))
    (x8_TooMany : PySem.W.typeIn K (.ref I_TooMany) = some (.type "function"))
    (x9_TooMany : PySem.W.keepIn K (.ref E_TooMany) = true)
    (y1_TooMany : PySem.W.subIn K (.ref E_TooMany) (.type "BaseException") = some true)
    (y2_TooMany : PySem.W.subIn K (.ref E_TooMany) (.type "ValueError") = some true)
    (y3_TooMany : PySem.W.typeIn K (.ref E_TooMany) = some (.type "type"))
    (y4_TooMany : PySem.W.hasDictIn K E_TooMany = true)
    (y5_TooMany : PySem.W.mroIn K E_TooMany (.ref E_TooMany) = some true)
    (y7_TooMany : PySem.W.ks_superIn K E_TooMany E_TooMany "__init__" = some (some (.builtin "ValueError.__init__")))
    (l1_TooMany : K.lookup I_TooMany = some ⟨oc_TooMany, od_TooMany, .func (PySem.W.ksFn "__init__" "TooMany.__init__" (defArgs s_TooMany) (defBody s_TooMany) (defScope s_TooMany) .none .none doc_TooMany pm_TooMany an_TooMany (.ref cd_TooMany) ct_TooMany cc_TooMany), osl_TooMany⟩)
    (l2_TooMany : PySem.W.codeIn K (.ref cd_TooMany) "TooMany.__init__" = true)
    (l3_TooMany : K.lookup cd_TooMany = some ⟨ccl_TooMany, cdd_TooMany, .fields vs_TooMany, ccs_TooMany⟩)
    (l4_TooMany : vs_TooMany[2]? = some (.str fl_TooMany tf_TooMany))
    (l5_TooMany : ((PySem.Challenge.pw_formatory_k28_moves_made.main.file : Str) == fl_TooMany) = true)
    (l6_TooMany : K.lookup cc_TooMany = some ⟨cl_TooMany, cld_TooMany, .cell (some (.ref E_TooMany)), csl_TooMany⟩)
    (o1 : PySem.W.nsIn K cStatics "thirdparty.any" = some none)
    (o2 : PySem.W.nsIn K mainGlobals "super" = some none)
    (ag_MOST_WAYS : PySem.W.nsIn K mainGlobals "MOST_WAYS" = some (some u_MOST_WAYS))
    (cg_MOST_WAYS : cstK K (.int 5000) u_MOST_WAYS = true)
    (ag_TAKING : PySem.W.nsIn K mainGlobals "TAKING" = some (some u_TAKING))
    (cg_TAKING : cstK K (.tup [(.str "cell"), (.str "any"), (.str "keep"), (.str "tell")]) u_TAKING = true)
    (a_f_law_begin : PySem.W.nsIn K mainGlobals "_law_begin" = some (some (.ref h__law_begin)))
    (l_f_law_begin : K.lookup h__law_begin = some ⟨oc_f_law_begin, od_f_law_begin, .func (PySem.W.fnOf "_law_begin" "_law_begin" (defArgs s__law_begin) (defBody s__law_begin) (defScope s__law_begin) .none kV_f_law_begin dc_f_law_begin pm_f_law_begin an_f_law_begin cd_f_law_begin ct_f_law_begin), sl_f_law_begin⟩)
    (c_f_law_begin : PySem.W.codeIn K cd_f_law_begin "_law_begin" = true)
    (k_f_law_begin : PySem.W.keepIn K (.ref h__law_begin) = true)
    (a_f_law_draw : PySem.W.nsIn K mainGlobals "_law_draw" = some (some (.ref h__law_draw)))
    (l_f_law_draw : K.lookup h__law_draw = some ⟨oc_f_law_draw, od_f_law_draw, .func (PySem.W.fnOf "_law_draw" "_law_draw" (defArgs s__law_draw) (defBody s__law_draw) (defScope s__law_draw) .none kV_f_law_draw dc_f_law_draw pm_f_law_draw an_f_law_draw cd_f_law_draw ct_f_law_draw), sl_f_law_draw⟩)
    (c_f_law_draw : PySem.W.codeIn K cd_f_law_draw "_law_draw" = true)
    (k_f_law_draw : PySem.W.keepIn K (.ref h__law_draw) = true)
    (a_f_law_pick : PySem.W.nsIn K mainGlobals "_law_pick" = some (some (.ref h__law_pick)))
    (l_f_law_pick : K.lookup h__law_pick = some ⟨oc_f_law_pick, od_f_law_pick, .func (PySem.W.fnOf "_law_pick" "_law_pick" (defArgs s__law_pick) (defBody s__law_pick) (defScope s__law_pick) .none kV_f_law_pick dc_f_law_pick pm_f_law_pick an_f_law_pick cd_f_law_pick ct_f_law_pick), sl_f_law_pick⟩)
    (c_f_law_pick : PySem.W.codeIn K cd_f_law_pick "_law_pick" = true)
    (k_f_law_pick : PySem.W.keepIn K (.ref h__law_pick) = true)
    (a_f_law_taking : PySem.W.nsIn K mainGlobals "_law_taking" = some (some (.ref h__law_taking)))
    (l_f_law_taking : K.lookup h__law_taking = some ⟨oc_f_law_taking, od_f_law_taking, .func (PySem.W.fnOf "_law_taking" "_law_taking" (defArgs s__law_taking) (defBody s__law_taking) (defScope s__law_taking) .none kV_f_law_taking dc_f_law_taking pm_f_law_taking an_f_law_taking cd_f_law_taking ct_f_law_taking), sl_f_law_taking⟩)
    (c_f_law_taking : PySem.W.codeIn K cd_f_law_taking "_law_taking" = true)
    (k_f_law_taking : PySem.W.keepIn K (.ref h__law_taking) = true)
    (a_f_law_rare : PySem.W.nsIn K mainGlobals "_law_rare" = some (some (.ref h__law_rare)))
    (l_f_law_rare : K.lookup h__law_rare = some ⟨oc_f_law_rare, od_f_law_rare, .func (PySem.W.fnOf "_law_rare" "_law_rare" (defArgs s__law_rare) (defBody s__law_rare) (defScope s__law_rare) .none kV_f_law_rare dc_f_law_rare pm_f_law_rare an_f_law_rare cd_f_law_rare ct_f_law_rare), sl_f_law_rare⟩)
    (c_f_law_rare : PySem.W.codeIn K cd_f_law_rare "_law_rare" = true)
    (k_f_law_rare : PySem.W.keepIn K (.ref h__law_rare) = true)
    (a_f_law_passing : PySem.W.nsIn K mainGlobals "_law_passing" = some (some (.ref h__law_passing)))
    (l_f_law_passing : K.lookup h__law_passing = some ⟨oc_f_law_passing, od_f_law_passing, .func (PySem.W.fnOf "_law_passing" "_law_passing" (defArgs s__law_passing) (defBody s__law_passing) (defScope s__law_passing) .none kV_f_law_passing dc_f_law_passing pm_f_law_passing an_f_law_passing cd_f_law_passing ct_f_law_passing), sl_f_law_passing⟩)
    (c_f_law_passing : PySem.W.codeIn K cd_f_law_passing "_law_passing" = true)
    (k_f_law_passing : PySem.W.keepIn K (.ref h__law_passing) = true)
    (a_f_law_row_of_steps : PySem.W.nsIn K mainGlobals "_law_row_of_steps" = some (some (.ref h__law_row_of_steps)))
    (l_f_law_row_of_steps : K.lookup h__law_row_of_steps = some ⟨oc_f_law_row_of_steps, od_f_law_row_of_steps, .func (PySem.W.fnOf "_law_row_of_steps" "_law_row_of_steps" (defArgs s__law_row_of_steps) (defBody s__law_row_of_steps) (defScope s__law_row_of_steps) .none kV_f_law_row_of_steps dc_f_law_row_of_steps pm_f_law_row_of_steps an_f_law_row_of_steps cd_f_law_row_of_steps ct_f_law_row_of_steps), sl_f_law_row_of_steps⟩)
    (c_f_law_row_of_steps : PySem.W.codeIn K cd_f_law_row_of_steps "_law_row_of_steps" = true)
    (k_f_law_row_of_steps : PySem.W.keepIn K (.ref h__law_row_of_steps) = true)
    (a_f_law_standing : PySem.W.nsIn K mainGlobals "_law_standing" = some (some (.ref h__law_standing)))
    (l_f_law_standing : K.lookup h__law_standing = some ⟨oc_f_law_standing, od_f_law_standing, .func (PySem.W.fnOf "_law_standing" "_law_standing" (defArgs s__law_standing) (defBody s__law_standing) (defScope s__law_standing) .none kV_f_law_standing dc_f_law_standing pm_f_law_standing an_f_law_standing cd_f_law_standing ct_f_law_standing), sl_f_law_standing⟩)
    (c_f_law_standing : PySem.W.codeIn K cd_f_law_standing "_law_standing" = true)
    (k_f_law_standing : PySem.W.keepIn K (.ref h__law_standing) = true)
    (a_f_law_is_int : PySem.W.nsIn K mainGlobals "_law_is_int" = some (some (.ref h__law_is_int)))
    (l_f_law_is_int : K.lookup h__law_is_int = some ⟨oc_f_law_is_int, od_f_law_is_int, .func (PySem.W.fnOf "_law_is_int" "_law_is_int" (defArgs s__law_is_int) (defBody s__law_is_int) (defScope s__law_is_int) .none kV_f_law_is_int dc_f_law_is_int pm_f_law_is_int an_f_law_is_int cd_f_law_is_int ct_f_law_is_int), sl_f_law_is_int⟩)
    (c_f_law_is_int : PySem.W.codeIn K cd_f_law_is_int "_law_is_int" = true)
    (k_f_law_is_int : PySem.W.keepIn K (.ref h__law_is_int) = true)
    (a_f_law_same : PySem.W.nsIn K mainGlobals "_law_same" = some (some (.ref h__law_same)))
    (l_f_law_same : K.lookup h__law_same = some ⟨oc_f_law_same, od_f_law_same, .func (PySem.W.fnOf "_law_same" "_law_same" (defArgs s__law_same) (defBody s__law_same) (defScope s__law_same) .none kV_f_law_same dc_f_law_same pm_f_law_same an_f_law_same cd_f_law_same ct_f_law_same), sl_f_law_same⟩)
    (c_f_law_same : PySem.W.codeIn K cd_f_law_same "_law_same" = true)
    (k_f_law_same : PySem.W.keepIn K (.ref h__law_same) = true)
    (a_f_law_lifted : PySem.W.nsIn K mainGlobals "_law_lifted" = some (some (.ref h__law_lifted)))
    (l_f_law_lifted : K.lookup h__law_lifted = some ⟨oc_f_law_lifted, od_f_law_lifted, .func (PySem.W.fnOf "_law_lifted" "_law_lifted" (defArgs s__law_lifted) (defBody s__law_lifted) (defScope s__law_lifted) .none kV_f_law_lifted dc_f_law_lifted pm_f_law_lifted an_f_law_lifted cd_f_law_lifted ct_f_law_lifted), sl_f_law_lifted⟩)
    (c_f_law_lifted : PySem.W.codeIn K cd_f_law_lifted "_law_lifted" = true)
    (k_f_law_lifted : PySem.W.keepIn K (.ref h__law_lifted) = true)
    (a_f_law_behind : PySem.W.nsIn K mainGlobals "_law_behind" = some (some (.ref h__law_behind)))
    (l_f_law_behind : K.lookup h__law_behind = some ⟨oc_f_law_behind, od_f_law_behind, .func (PySem.W.fnOf "_law_behind" "_law_behind" (defArgs s__law_behind) (defBody s__law_behind) (defScope s__law_behind) .none kV_f_law_behind dc_f_law_behind pm_f_law_behind an_f_law_behind cd_f_law_behind ct_f_law_behind), sl_f_law_behind⟩)
    (c_f_law_behind : PySem.W.codeIn K cd_f_law_behind "_law_behind" = true)
    (k_f_law_behind : PySem.W.keepIn K (.ref h__law_behind) = true)
    (a_f_law_onward : PySem.W.nsIn K mainGlobals "_law_onward" = some (some (.ref h__law_onward)))
    (l_f_law_onward : K.lookup h__law_onward = some ⟨oc_f_law_onward, od_f_law_onward, .func (PySem.W.fnOf "_law_onward" "_law_onward" (defArgs s__law_onward) (defBody s__law_onward) (defScope s__law_onward) .none kV_f_law_onward dc_f_law_onward pm_f_law_onward an_f_law_onward cd_f_law_onward ct_f_law_onward), sl_f_law_onward⟩)
    (c_f_law_onward : PySem.W.codeIn K cd_f_law_onward "_law_onward" = true)
    (k_f_law_onward : PySem.W.keepIn K (.ref h__law_onward) = true)
    (a_f_law_ways : PySem.W.nsIn K mainGlobals "_law_ways" = some (some (.ref h__law_ways)))
    (l_f_law_ways : K.lookup h__law_ways = some ⟨oc_f_law_ways, od_f_law_ways, .func (PySem.W.fnOf "_law_ways" "_law_ways" (defArgs s__law_ways) (defBody s__law_ways) (defScope s__law_ways) .none kV_f_law_ways dc_f_law_ways pm_f_law_ways an_f_law_ways cd_f_law_ways ct_f_law_ways), sl_f_law_ways⟩)
    (c_f_law_ways : PySem.W.codeIn K cd_f_law_ways "_law_ways" = true)
    (k_f_law_ways : PySem.W.keepIn K (.ref h__law_ways) = true)
    (a_f_law_due : PySem.W.nsIn K mainGlobals "_law_due" = some (some (.ref h__law_due)))
    (l_f_law_due : K.lookup h__law_due = some ⟨oc_f_law_due, od_f_law_due, .func (PySem.W.fnOf "_law_due" "_law_due" (defArgs s__law_due) (defBody s__law_due) (defScope s__law_due) .none kV_f_law_due dc_f_law_due pm_f_law_due an_f_law_due cd_f_law_due ct_f_law_due), sl_f_law_due⟩)
    (c_f_law_due : PySem.W.codeIn K cd_f_law_due "_law_due" = true)
    (k_f_law_due : PySem.W.keepIn K (.ref h__law_due) = true)
    (a_fcells_for : PySem.W.nsIn K mainGlobals "cells_for" = some (some (.ref h_cells_for)))
    (l_fcells_for : K.lookup h_cells_for = some ⟨oc_fcells_for, od_fcells_for, .func (PySem.W.fnOf "cells_for" "cells_for" (defArgs s_cells_for) (defBody s_cells_for) (defScope s_cells_for) .none kV_fcells_for dc_fcells_for pm_fcells_for an_fcells_for cd_fcells_for ct_fcells_for), sl_fcells_for⟩)
    (c_fcells_for : PySem.W.codeIn K cd_fcells_for "cells_for" = true)
    (k_fcells_for : PySem.W.keepIn K (.ref h_cells_for) = true)
    (a_fraised_by : PySem.W.nsIn K mainGlobals "raised_by" = some (some (.ref h_raised_by)))
    (l_fraised_by : K.lookup h_raised_by = some ⟨oc_fraised_by, od_fraised_by, .func (PySem.W.fnOf "raised_by" "raised_by" (defArgs s_raised_by) (defBody s_raised_by) (defScope s_raised_by) .none kV_fraised_by dc_fraised_by pm_fraised_by an_fraised_by cd_fraised_by ct_fraised_by), sl_fraised_by⟩)
    (c_fraised_by : PySem.W.codeIn K cd_fraised_by "raised_by" = true)
    (k_fraised_by : PySem.W.keepIn K (.ref h_raised_by) = true)
    (a_fcounted : PySem.W.nsIn K mainGlobals "counted" = some (some (.ref h_counted)))
    (l_fcounted : K.lookup h_counted = some ⟨oc_fcounted, od_fcounted, .func (PySem.W.fnOf "counted" "counted" (defArgs s_counted) (defBody s_counted) (defScope s_counted) .none kV_fcounted dc_fcounted pm_fcounted an_fcounted cd_fcounted ct_fcounted), sl_fcounted⟩)
    (c_fcounted : PySem.W.codeIn K cd_fcounted "counted" = true)
    (k_fcounted : PySem.W.keepIn K (.ref h_counted) = true)
    (a_fwith_content : PySem.W.nsIn K mainGlobals "with_content" = some (some (.ref h_with_content)))
    (l_fwith_content : K.lookup h_with_content = some ⟨oc_fwith_content, od_fwith_content, .func (PySem.W.fnOf "with_content" "with_content" (defArgs s_with_content) (defBody s_with_content) (defScope s_with_content) .none kV_fwith_content dc_fwith_content pm_fwith_content an_fwith_content cd_fwith_content ct_fwith_content), sl_fwith_content⟩)
    (c_fwith_content : PySem.W.codeIn K cd_fwith_content "with_content" = true)
    (k_fwith_content : PySem.W.keepIn K (.ref h_with_content) = true)
    (a_fpassed : PySem.W.nsIn K mainGlobals "passed" = some (some (.ref h_passed)))
    (l_fpassed : K.lookup h_passed = some ⟨oc_fpassed, od_fpassed, .func (PySem.W.fnOf "passed" "passed" (defArgs s_passed) (defBody s_passed) (defScope s_passed) .none kV_fpassed dc_fpassed pm_fpassed an_fpassed cd_fpassed ct_fpassed), sl_fpassed⟩)
    (c_fpassed : PySem.W.codeIn K cd_fpassed "passed" = true)
    (k_fpassed : PySem.W.keepIn K (.ref h_passed) = true)
    (a_fsettle : PySem.W.nsIn K mainGlobals "settle" = some (some (.ref h_settle)))
    (l_fsettle : K.lookup h_settle = some ⟨oc_fsettle, od_fsettle, .func (PySem.W.fnOf "settle" "settle" (defArgs s_settle) (defBody s_settle) (defScope s_settle) .none kV_fsettle dc_fsettle pm_fsettle an_fsettle cd_fsettle ct_fsettle), sl_fsettle⟩)
    (c_fsettle : PySem.W.codeIn K cd_fsettle "settle" = true)
    (k_fsettle : PySem.W.keepIn K (.ref h_settle) = true)
    (a_fmoves : PySem.W.nsIn K mainGlobals "moves" = some (some (.ref h_moves)))
    (l_fmoves : K.lookup h_moves = some ⟨oc_fmoves, od_fmoves, .func (PySem.W.fnOf "moves" "moves" (defArgs s_moves) (defBody s_moves) (defScope s_moves) .none kV_fmoves dc_fmoves pm_fmoves an_fmoves cd_fmoves ct_fmoves), sl_fmoves⟩)
    (c_fmoves : PySem.W.codeIn K cd_fmoves "moves" = true)
    (k_fmoves : PySem.W.keepIn K (.ref h_moves) = true)
    (a_f_law_holds : PySem.W.nsIn K mainGlobals "_law_holds" = some (some (.ref h__law_holds)))
    (l_f_law_holds : K.lookup h__law_holds = some ⟨oc_f_law_holds, od_f_law_holds, .func (PySem.W.fnOf "_law_holds" "_law_holds" (defArgs s__law_holds) (defBody s__law_holds) (defScope s__law_holds) .none kV_f_law_holds dc_f_law_holds pm_f_law_holds an_f_law_holds cd_f_law_holds ct_f_law_holds), sl_f_law_holds⟩)
    (c_f_law_holds : PySem.W.codeIn K cd_f_law_holds "_law_holds" = true)
    (k_f_law_holds : PySem.W.keepIn K (.ref h__law_holds) = true)
    (a_flaw : PySem.W.nsIn K mainGlobals "law" = some (some (.ref h_law)))
    (l_flaw : K.lookup h_law = some ⟨oc_flaw, od_flaw, .func (PySem.W.fnOf "law" "law" (defArgs s_law) (defBody s_law) (defScope s_law) .none kV_flaw dc_flaw pm_flaw an_flaw cd_flaw ct_flaw), sl_flaw⟩)
    (c_flaw : PySem.W.codeIn K cd_flaw "law" = true)
    (k_flaw : PySem.W.keepIn K (.ref h_law) = true)
    (z_abs : PySem.W.nsIn K mainGlobals "abs" = some none)
    (z_bool : PySem.W.nsIn K mainGlobals "bool" = some none)
    (z_int : PySem.W.nsIn K mainGlobals "int" = some none)
    (z_isinstance : PySem.W.nsIn K mainGlobals "isinstance" = some none)
    (z_len : PySem.W.nsIn K mainGlobals "len" = some none)
    (z_list : PySem.W.nsIn K mainGlobals "list" = some none)
    (z_range : PySem.W.nsIn K mainGlobals "range" = some none)
    (z_reversed : PySem.W.nsIn K mainGlobals "reversed" = some none)
    (z_sorted : PySem.W.nsIn K mainGlobals "sorted" = some none)
    (z_str : PySem.W.nsIn K mainGlobals "str" = some none)
    (z_tuple : PySem.W.nsIn K mainGlobals "tuple" = some none) :
    ∃ fd : FuncData, (∀ (s : Shared) (v : Value), BindsTo s fd ⟨[v], []⟩ [("script", v)]) ∧ ∀ base : Heap, K.In base → base.Ns mainGlobals mg → FnOk PySem.Challenge.pw_formatory_k28_moves_made w K mg base (L2.CX PySem.Challenge.pw_formatory_k28_moves_made w) 13 fa fd ["script"] (spF K mg 1 m_law) := by
  have e := hfa.symm.trans (PySem.W.mg_of X G a_flaw)
  cases e
  have zz_abs := PySem.W.mg_none_of X G z_abs
  have zz_bool := PySem.W.mg_none_of X G z_bool
  have zz_int := PySem.W.mg_none_of X G z_int
  have zz_isinstance := PySem.W.mg_none_of X G z_isinstance
  have zz_len := PySem.W.mg_none_of X G z_len
  have zz_list := PySem.W.mg_none_of X G z_list
  have zz_range := PySem.W.mg_none_of X G z_range
  have zz_reversed := PySem.W.mg_none_of X G z_reversed
  have zz_sorted := PySem.W.mg_none_of X G z_sorted
  have zz_str := PySem.W.mg_none_of X G z_str
  have zz_tuple := PySem.W.mg_none_of X G z_tuple
  have x_TooMany : PySem.SXE.SxTxt PySem.Challenge.pw_formatory_k28_moves_made K mg "TooMany" E_TooMany I_TooMany ["what"] := { gC := PySem.W.mg_of X G a_TooMany, cls := ⟨_, _, _, _, _, _, _, _, _, _, _, _, _, _, _, x1_TooMany, x2_TooMany⟩, sa := x3_TooMany, ga := x4_TooMany, gg := x5_TooMany, noF := (fun f hf => by simp only [List.mem_cons, List.not_mem_nil, or_false] at hf; rcases hf with rfl <;> first | exact x6_TooMany_what), iC := x7_TooMany, tC := x8_TooMany, kC := x9_TooMany, exC := y1_TooMany, veC := y2_TooMany, tyC := y3_TooMany, hdC := y4_TooMany, slf := y5_TooMany, opq := o1, sup := y7_TooMany, gsup := PySem.W.mg_none_of X G o2, tops := (by decide +kernel), fn := ⟨_, _, _, _, _, _, _, _, _, _, _, _, _, l1_TooMany, l2_TooMany, ⟨_, _, _, _, _, _, l3_TooMany, l4_TooMany, l5_TooMany⟩, ⟨_, _, _, l6_TooMany⟩, rfl, ⟨_, _, _, _, _, _, _, _, [(_, _, _, _)], rfl, rfl, fun _ => rfl⟩, (by decide +kernel), (by decide +kernel), (by decide +kernel), (by decide +kernel), (by decide +kernel), rfl, rfl, rfl, fun s us hl => match us, hl with | [_, _], _ => .of_eq rfl⟩ }
  have gl_MOST_WAYS : GlbT K mg "MOST_WAYS" (.int 5000) := glb_of (PySem.W.mg_of X G ag_MOST_WAYS) cg_MOST_WAYS
  have gl_TAKING : GlbT K mg "TAKING" (.tup [(.str "cell"), (.str "any"), (.str "keep"), (.str "tell")]) := glb_of (PySem.W.mg_of X G ag_TAKING) cg_TAKING
  have F__law_begin := fun_mk (st := s__law_begin) l_f_law_begin c_f_law_begin k_f_law_begin
  have bb__law_begin := L2.Fun.binds F__law_begin (ps := ["script"]) fun _ _ _ _ _ _ us hl => match us, hl with | [_], _ => rfl
  have F__law_draw := fun_mk (st := s__law_draw) l_f_law_draw c_f_law_draw k_f_law_draw
  have bb__law_draw := L2.Fun.binds F__law_draw (ps := ["d", "many"]) fun _ _ _ _ _ _ us hl => match us, hl with | [_, _], _ => rfl
  have F__law_pick := fun_mk (st := s__law_pick) l_f_law_pick c_f_law_pick k_f_law_pick
  have bb__law_pick := L2.Fun.binds F__law_pick (ps := ["d", "row"]) fun _ _ _ _ _ _ us hl => match us, hl with | [_, _], _ => rfl
  have F__law_taking := fun_mk (st := s__law_taking) l_f_law_taking c_f_law_taking k_f_law_taking
  have bb__law_taking := L2.Fun.binds F__law_taking (ps := ["d", "base", "many"]) fun _ _ _ _ _ _ us hl => match us, hl with | [_, _, _], _ => rfl
  have F__law_rare := fun_mk (st := s__law_rare) l_f_law_rare c_f_law_rare k_f_law_rare
  have bb__law_rare := L2.Fun.binds F__law_rare (ps := ["d", "many"]) fun _ _ _ _ _ _ us hl => match us, hl with | [_, _], _ => rfl
  have F__law_passing := fun_mk (st := s__law_passing) l_f_law_passing c_f_law_passing k_f_law_passing
  have bb__law_passing := L2.Fun.binds F__law_passing (ps := ["d", "at", "last", "many", "forks"]) fun _ _ _ _ _ _ us hl => match us, hl with | [_, _, _, _, _], _ => rfl
  have F__law_row_of_steps := fun_mk (st := s__law_row_of_steps) l_f_law_row_of_steps c_f_law_row_of_steps k_f_law_row_of_steps
  have bb__law_row_of_steps := L2.Fun.binds F__law_row_of_steps (ps := ["d"]) fun _ _ _ _ _ _ us hl => match us, hl with | [_], _ => rfl
  have F__law_standing := fun_mk (st := s__law_standing) l_f_law_standing c_f_law_standing k_f_law_standing
  have bb__law_standing := L2.Fun.binds F__law_standing (ps := ["d", "world"]) fun _ _ _ _ _ _ us hl => match us, hl with | [_, _], _ => rfl
  have F__law_is_int := fun_mk (st := s__law_is_int) l_f_law_is_int c_f_law_is_int k_f_law_is_int
  have bb__law_is_int := L2.Fun.binds F__law_is_int (ps := ["thing"]) fun _ _ _ _ _ _ us hl => match us, hl with | [_], _ => rfl
  have F__law_same := fun_mk (st := s__law_same) l_f_law_same c_f_law_same k_f_law_same
  have bb__law_same := L2.Fun.binds F__law_same (ps := ["one", "other"]) fun _ _ _ _ _ _ us hl => match us, hl with | [_, _], _ => rfl
  have F__law_lifted := fun_mk (st := s__law_lifted) l_f_law_lifted c_f_law_lifted k_f_law_lifted
  have bb__law_lifted := L2.Fun.binds F__law_lifted (ps := ["up", "content", "cell"]) fun _ _ _ _ _ _ us hl => match us, hl with | [_, _, _], _ => rfl
  have F__law_behind := fun_mk (st := s__law_behind) l_f_law_behind c_f_law_behind k_f_law_behind
  have bb__law_behind := L2.Fun.binds F__law_behind (ps := ["step", "base", "contents", "cell"]) fun _ _ _ _ _ _ us hl => match us, hl with | [_, _, _, _], _ => rfl
  have F__law_onward := fun_mk (st := s__law_onward) l_f_law_onward c_f_law_onward k_f_law_onward
  have bb__law_onward := L2.Fun.binds F__law_onward (ps := ["step", "at", "held"]) fun _ _ _ _ _ _ us hl => match us, hl with | [_, _, _], _ => rfl
  have F__law_ways := fun_mk (st := s__law_ways) l_f_law_ways c_f_law_ways k_f_law_ways
  have bb__law_ways := L2.Fun.binds F__law_ways (ps := ["steps", "place", "contents"]) fun _ _ _ _ _ _ us hl => match us, hl with | [_, _, _], _ => rfl
  have F__law_due := fun_mk (st := s__law_due) l_f_law_due c_f_law_due k_f_law_due
  have bb__law_due := L2.Fun.binds F__law_due (ps := ["steps", "base", "place", "contents"]) fun _ _ _ _ _ _ us hl => match us, hl with | [_, _, _, _], _ => rfl
  have F_cells_for := fun_mk (st := s_cells_for) l_fcells_for c_fcells_for k_fcells_for
  have bb_cells_for := L2.Fun.binds F_cells_for (ps := ["step", "base", "counters"]) fun _ _ _ _ _ _ us hl => match us, hl with | [_, _, _], _ => rfl
  have F_raised_by := fun_mk (st := s_raised_by) l_fraised_by c_fraised_by k_fraised_by
  have bb_raised_by := L2.Fun.binds F_raised_by (ps := ["up", "content", "cell"]) fun _ _ _ _ _ _ us hl => match us, hl with | [_, _, _], _ => rfl
  have F_counted := fun_mk (st := s_counted) l_fcounted c_fcounted k_fcounted
  have bb_counted := L2.Fun.binds F_counted (ps := ["step", "base", "counters", "cell"]) fun _ _ _ _ _ _ us hl => match us, hl with | [_, _, _, _], _ => rfl
  have F_with_content := fun_mk (st := s_with_content) l_fwith_content c_fwith_content k_fwith_content
  have bb_with_content := L2.Fun.binds F_with_content (ps := ["counters", "counter", "content"]) fun _ _ _ _ _ _ us hl => match us, hl with | [_, _, _], _ => rfl
  have F_passed := fun_mk (st := s_passed) l_fpassed c_fpassed k_fpassed
  have bb_passed := L2.Fun.binds F_passed (ps := ["step", "place", "counters"]) fun _ _ _ _ _ _ us hl => match us, hl with | [_, _, _], _ => rfl
  have F_settle := fun_mk (st := s_settle) l_fsettle c_fsettle k_fsettle
  have bb_settle := L2.Fun.binds F_settle (ps := ["steps", "place", "counters"]) fun _ _ _ _ _ _ us hl => match us, hl with | [_, _, _], _ => rfl
  have F_moves := fun_mk (st := s_moves) l_fmoves c_fmoves k_fmoves
  have bb_moves := L2.Fun.binds F_moves (ps := ["steps", "base", "standing"]) fun _ _ _ _ _ _ us hl => match us, hl with | [_, _, _], _ => rfl
  have F__law_holds := fun_mk (st := s__law_holds) l_f_law_holds c_f_law_holds k_f_law_holds
  have bb__law_holds := L2.Fun.binds F__law_holds (ps := ["world", "standing"]) fun _ _ _ _ _ _ us hl => match us, hl with | [_, _], _ => rfl
  have F_law := fun_mk (st := s_law) l_flaw c_flaw k_flaw
  have bb_law := L2.Fun.binds F_law (ps := ["script"]) fun _ _ _ _ _ _ us hl => match us, hl with | [_], _ => rfl
  have c__law_begin : ∀ base : Heap, Cal PySem.Challenge.pw_formatory_k28_moves_made w K mg base "_law_begin" 2 1 m__law_begin := fun base => ok__law_begin F__law_begin (PySem.W.mg_of X G a_f_law_begin) bb__law_begin zz_int
  have c__law_draw : ∀ base : Heap, Cal PySem.Challenge.pw_formatory_k28_moves_made w K mg base "_law_draw" 2 2 m__law_draw := fun base => ok__law_draw F__law_draw (PySem.W.mg_of X G a_f_law_draw) bb__law_draw zz_abs zz_int zz_len
  have c__law_pick : ∀ base : Heap, Cal PySem.Challenge.pw_formatory_k28_moves_made w K mg base "_law_pick" 3 2 m__law_pick := fun base => ok__law_pick F__law_pick (PySem.W.mg_of X G a_f_law_pick) bb__law_pick (c__law_draw base) zz_len
  have c__law_taking : ∀ base : Heap, Cal PySem.Challenge.pw_formatory_k28_moves_made w K mg base "_law_taking" 4 3 m__law_taking := fun base => ok__law_taking F__law_taking (PySem.W.mg_of X G a_f_law_taking) bb__law_taking (c__law_draw base) (c__law_pick base) zz_range zz_tuple
  have c__law_rare : ∀ base : Heap, Cal PySem.Challenge.pw_formatory_k28_moves_made w K mg base "_law_rare" 3 2 m__law_rare := fun base => ok__law_rare F__law_rare (PySem.W.mg_of X G a_f_law_rare) bb__law_rare (c__law_draw base)
  have c__law_passing : ∀ base : Heap, Cal PySem.Challenge.pw_formatory_k28_moves_made w K mg base "_law_passing" 4 5 m__law_passing := fun base => ok__law_passing F__law_passing (PySem.W.mg_of X G a_f_law_passing) bb__law_passing (c__law_draw base) (c__law_rare base) (c__law_pick base) zz_range zz_tuple
  have c__law_row_of_steps : ∀ base : Heap, Cal PySem.Challenge.pw_formatory_k28_moves_made w K mg base "_law_row_of_steps" 5 1 m__law_row_of_steps := fun base => ok__law_row_of_steps F__law_row_of_steps (PySem.W.mg_of X G a_f_law_row_of_steps) bb__law_row_of_steps (c__law_draw base) (c__law_taking base) (c__law_pick base) (c__law_passing base) zz_int zz_len zz_range zz_tuple
  have c__law_standing : ∀ base : Heap, Cal PySem.Challenge.pw_formatory_k28_moves_made w K mg base "_law_standing" 4 2 m__law_standing := fun base => ok__law_standing F__law_standing (PySem.W.mg_of X G a_f_law_standing) bb__law_standing (c__law_pick base) (c__law_draw base) zz_len zz_range zz_tuple
  have c__law_is_int : ∀ base : Heap, Cal PySem.Challenge.pw_formatory_k28_moves_made w K mg base "_law_is_int" 2 1 m__law_is_int := fun base => ok__law_is_int F__law_is_int (PySem.W.mg_of X G a_f_law_is_int) bb__law_is_int zz_bool zz_int zz_isinstance
  have c__law_same : ∀ base : Heap, Cal PySem.Challenge.pw_formatory_k28_moves_made w K mg base "_law_same" 11 2 (m__law_same 8) := fun base => (ok__law_same F__law_same (PySem.W.mg_of X G a_f_law_same) bb__law_same (c__law_is_int base) zz_bool zz_isinstance zz_len zz_range zz_str zz_tuple 8)
  have c__law_lifted : ∀ base : Heap, Cal PySem.Challenge.pw_formatory_k28_moves_made w K mg base "_law_lifted" 2 3 m__law_lifted := fun base => ok__law_lifted F__law_lifted (PySem.W.mg_of X G a_f_law_lifted) bb__law_lifted zz_int
  have c__law_behind : ∀ base : Heap, Cal PySem.Challenge.pw_formatory_k28_moves_made w K mg base "_law_behind" 3 4 m__law_behind := fun base => ok__law_behind F__law_behind (PySem.W.mg_of X G a_f_law_behind) bb__law_behind (c__law_lifted base) zz_int zz_len zz_list zz_tuple
  have c__law_onward : ∀ base : Heap, Cal PySem.Challenge.pw_formatory_k28_moves_made w K mg base "_law_onward" 2 3 m__law_onward := fun base => ok__law_onward F__law_onward (PySem.W.mg_of X G a_f_law_onward) bb__law_onward zz_int
  have c__law_ways : ∀ base : Heap, Cal PySem.Challenge.pw_formatory_k28_moves_made w K mg base "_law_ways" 3 3 m__law_ways := fun base => ok__law_ways F__law_ways (PySem.W.mg_of X G a_f_law_ways) bb__law_ways (c__law_onward base) zz_len zz_range zz_sorted zz_tuple
  have c__law_due : ∀ base : Heap, Cal PySem.Challenge.pw_formatory_k28_moves_made w K mg base "_law_due" 4 4 m__law_due := fun base => ok__law_due F__law_due (PySem.W.mg_of X G a_f_law_due) bb__law_due (c__law_behind base) (c__law_ways base) zz_range zz_tuple
  have c_cells_for : ∀ base : Heap, Cal PySem.Challenge.pw_formatory_k28_moves_made w K mg base "cells_for" 2 3 m_cells_for := fun base => ok_cells_for F_cells_for (PySem.W.mg_of X G a_fcells_for) bb_cells_for zz_int zz_list zz_range
  have c_raised_by : ∀ base : Heap, Cal PySem.Challenge.pw_formatory_k28_moves_made w K mg base "raised_by" 2 3 m_raised_by := fun base => ok_raised_by F_raised_by (PySem.W.mg_of X G a_fraised_by) bb_raised_by zz_int
  have c_counted : ∀ base : Heap, Cal PySem.Challenge.pw_formatory_k28_moves_made w K mg base "counted" 3 4 m_counted := fun base => ok_counted F_counted (PySem.W.mg_of X G a_fcounted) bb_counted (c_raised_by base) zz_list zz_tuple
  have c_with_content : ∀ base : Heap, Cal PySem.Challenge.pw_formatory_k28_moves_made w K mg base "with_content" 2 3 m_with_content := fun base => ok_with_content F_with_content (PySem.W.mg_of X G a_fwith_content) bb_with_content 
  have c_passed : ∀ base : Heap, Cal PySem.Challenge.pw_formatory_k28_moves_made w K mg base "passed" 3 3 m_passed := fun base => ok_passed F_passed (PySem.W.mg_of X G a_fpassed) bb_passed (c_with_content base)
  have c_settle : ∀ base : Heap, Cal PySem.Challenge.pw_formatory_k28_moves_made w K mg base "settle" 4 3 m_settle := fun base => ok_settle F_settle (PySem.W.mg_of X G a_fsettle) bb_settle (c_passed base) zz_len zz_range zz_reversed zz_tuple gl_MOST_WAYS gl_TAKING x_TooMany
  have c_moves : ∀ base : Heap, Cal PySem.Challenge.pw_formatory_k28_moves_made w K mg base "moves" 5 3 m_moves := fun base => ok_moves F_moves (PySem.W.mg_of X G a_fmoves) bb_moves (c_cells_for base) (c_counted base) (c_settle base) zz_tuple
  have c__law_holds : ∀ base : Heap, Cal PySem.Challenge.pw_formatory_k28_moves_made w K mg base "_law_holds" 12 2 m__law_holds := fun base => ok__law_holds F__law_holds (PySem.W.mg_of X G a_f_law_holds) bb__law_holds (c__law_same base) (c_moves base) (c__law_due base)
  refine ⟨_, fun s v => .of_eq ?_, fun base _ _ => ok_law F_law (c__law_begin base) (c__law_row_of_steps base) (c__law_standing base) (c__law_holds base) (c_moves base) zz_len zz_range⟩
  rfl
theorem walk {q : Program} {loose : List Str} {XP : (Str → Option Value) → Heap → Prop} {YP : World → Heap → Prop} {d : DefRec} {K : Params → PySem.W.Frag} (hdf : d.params.defaults = [])
    (hY : ∀ (w : World) (h : Heap), YP w h → (K w.params).In h)
    (F : ∀ (w : World) (mg : Str → Option Value) (fa : Addr) (h : Heap), (K w.params).In h → h.Ns mainGlobals mg → mg d.name = some (.ref fa) →
      ∃ fd : FuncData, (∀ (s : Shared) (u : Value), BindsTo s fd ⟨[u], []⟩ [("script", u)]) ∧ ∀ base : Heap, (K w.params).In base → base.Ns mainGlobals mg → FnOk PySem.Challenge.pw_formatory_k28_moves_made w (K w.params) mg base (L2.CX PySem.Challenge.pw_formatory_k28_moves_made w) 13 fa fd ["script"] (spF (K w.params) mg 1 m_law)) :
    PySem.W.WalkO q loose XP YP PySem.Challenge.rw_formatory_k28_moves_made.row.toRowW d [] (fun f vs => PySem.call f vs) :=
  law_walk (l := PySem.Challenge.rw_formatory_k28_moves_made) rfl hdf ⟨rfl, by decide, by decide⟩ hY F law_true

end K28

open PySem PySem.W PyProof.Rows in
set_option maxRecDepth 100000 in
set_option maxHeartbeats 0 in
theorem PySem.Challenge.cw_formatory_k28_moves_made_holds : PySem.Challenge.rw_formatory_k28_moves_made.Holds := by
  w_on; o_law; k_head; (case hw => w_witness2)
  k_fill
  refine K28.walk rfl (fun w h Y => PySem.W.kIn_of Y) ?F
  case F =>
    intro w mg fa h KX G hmg
    refine' K28.all_ok KX G hmg ?a_TooMany ?x1_TooMany ?x2_TooMany ?x3_TooMany ?x4_TooMany ?x5_TooMany ?x6_TooMany_what ?x7_TooMany ?x8_TooMany ?x9_TooMany ?y1_TooMany ?y2_TooMany ?y3_TooMany ?y4_TooMany ?y5_TooMany ?y7_TooMany ?l1_TooMany ?l2_TooMany ?l3_TooMany ?l4_TooMany ?l5_TooMany ?l6_TooMany ?o1 ?o2 ?ag_MOST_WAYS ?cg_MOST_WAYS ?ag_TAKING ?cg_TAKING ?a_f_law_begin ?l_f_law_begin ?c_f_law_begin ?k_f_law_begin ?a_f_law_draw ?l_f_law_draw ?c_f_law_draw ?k_f_law_draw ?a_f_law_pick ?l_f_law_pick ?c_f_law_pick ?k_f_law_pick ?a_f_law_taking ?l_f_law_taking ?c_f_law_taking ?k_f_law_taking ?a_f_law_rare ?l_f_law_rare ?c_f_law_rare ?k_f_law_rare ?a_f_law_passing ?l_f_law_passing ?c_f_law_passing ?k_f_law_passing ?a_f_law_row_of_steps ?l_f_law_row_of_steps ?c_f_law_row_of_steps ?k_f_law_row_of_steps ?a_f_law_standing ?l_f_law_standing ?c_f_law_standing ?k_f_law_standing ?a_f_law_is_int ?l_f_law_is_int ?c_f_law_is_int ?k_f_law_is_int ?a_f_law_same ?l_f_law_same ?c_f_law_same ?k_f_law_same ?a_f_law_lifted ?l_f_law_lifted ?c_f_law_lifted ?k_f_law_lifted ?a_f_law_behind ?l_f_law_behind ?c_f_law_behind ?k_f_law_behind ?a_f_law_onward ?l_f_law_onward ?c_f_law_onward ?k_f_law_onward ?a_f_law_ways ?l_f_law_ways ?c_f_law_ways ?k_f_law_ways ?a_f_law_due ?l_f_law_due ?c_f_law_due ?k_f_law_due ?a_fcells_for ?l_fcells_for ?c_fcells_for ?k_fcells_for ?a_fraised_by ?l_fraised_by ?c_fraised_by ?k_fraised_by ?a_fcounted ?l_fcounted ?c_fcounted ?k_fcounted ?a_fwith_content ?l_fwith_content ?c_fwith_content ?k_fwith_content ?a_fpassed ?l_fpassed ?c_fpassed ?k_fpassed ?a_fsettle ?l_fsettle ?c_fsettle ?k_fsettle ?a_fmoves ?l_fmoves ?c_fmoves ?k_fmoves ?a_f_law_holds ?l_f_law_holds ?c_f_law_holds ?k_f_law_holds ?a_flaw ?l_flaw ?c_flaw ?k_flaw ?z_abs ?z_bool ?z_int ?z_isinstance ?z_len ?z_list ?z_range ?z_reversed ?z_sorted ?z_str ?z_tuple
    (case a_TooMany => k_is)
    (case x1_TooMany => k_is)
    (case x2_TooMany => decide +kernel)
    (case x3_TooMany => k_is)
    (case x4_TooMany => k_is)
    (case x5_TooMany => k_is)
    (case x6_TooMany_what => k_is)
    (case x7_TooMany => k_is)
    (case x8_TooMany => k_is)
    (case x9_TooMany => k_is)
    (case y1_TooMany => k_is)
    (case y2_TooMany => k_is)
    (case y3_TooMany => k_is)
    (case y4_TooMany => k_is)
    (case y5_TooMany => k_is)
    (case y7_TooMany => ks_is)
    (case l1_TooMany => k_is)
    (case l2_TooMany => k_is)
    (case l3_TooMany => k_is)
    (case l4_TooMany => first | rfl | decide +kernel)
    (case l5_TooMany => first | rfl | decide +kernel)
    (case l6_TooMany => k_is)
    (case o1 => k_is)
    (case o2 => k_is)
    (case ag_MOST_WAYS => k_is)
    (case cg_MOST_WAYS => first | k_is | rfl | decide +kernel)
    (case ag_TAKING => k_is)
    (case cg_TAKING => first | k_is | rfl | decide +kernel)
    (case a_f_law_begin => k_is)
    (case l_f_law_begin => k_is)
    (case c_f_law_begin => k_is)
    (case k_f_law_begin => k_is)
    (case a_f_law_draw => k_is)
    (case l_f_law_draw => k_is)
    (case c_f_law_draw => k_is)
    (case k_f_law_draw => k_is)
    (case a_f_law_pick => k_is)
    (case l_f_law_pick => k_is)
    (case c_f_law_pick => k_is)
    (case k_f_law_pick => k_is)
    (case a_f_law_taking => k_is)
    (case l_f_law_taking => k_is)
    (case c_f_law_taking => k_is)
    (case k_f_law_taking => k_is)
    (case a_f_law_rare => k_is)
    (case l_f_law_rare => k_is)
    (case c_f_law_rare => k_is)
    (case k_f_law_rare => k_is)
    (case a_f_law_passing => k_is)
    (case l_f_law_passing => k_is)
    (case c_f_law_passing => k_is)
    (case k_f_law_passing => k_is)
    (case a_f_law_row_of_steps => k_is)
    (case l_f_law_row_of_steps => k_is)
    (case c_f_law_row_of_steps => k_is)
    (case k_f_law_row_of_steps => k_is)
    (case a_f_law_standing => k_is)
    (case l_f_law_standing => k_is)
    (case c_f_law_standing => k_is)
    (case k_f_law_standing => k_is)
    (case a_f_law_is_int => k_is)
    (case l_f_law_is_int => k_is)
    (case c_f_law_is_int => k_is)
    (case k_f_law_is_int => k_is)
    (case a_f_law_same => k_is)
    (case l_f_law_same => k_is)
    (case c_f_law_same => k_is)
    (case k_f_law_same => k_is)
    (case a_f_law_lifted => k_is)
    (case l_f_law_lifted => k_is)
    (case c_f_law_lifted => k_is)
    (case k_f_law_lifted => k_is)
    (case a_f_law_behind => k_is)
    (case l_f_law_behind => k_is)
    (case c_f_law_behind => k_is)
    (case k_f_law_behind => k_is)
    (case a_f_law_onward => k_is)
    (case l_f_law_onward => k_is)
    (case c_f_law_onward => k_is)
    (case k_f_law_onward => k_is)
    (case a_f_law_ways => k_is)
    (case l_f_law_ways => k_is)
    (case c_f_law_ways => k_is)
    (case k_f_law_ways => k_is)
    (case a_f_law_due => k_is)
    (case l_f_law_due => k_is)
    (case c_f_law_due => k_is)
    (case k_f_law_due => k_is)
    (case a_fcells_for => k_is)
    (case l_fcells_for => k_is)
    (case c_fcells_for => k_is)
    (case k_fcells_for => k_is)
    (case a_fraised_by => k_is)
    (case l_fraised_by => k_is)
    (case c_fraised_by => k_is)
    (case k_fraised_by => k_is)
    (case a_fcounted => k_is)
    (case l_fcounted => k_is)
    (case c_fcounted => k_is)
    (case k_fcounted => k_is)
    (case a_fwith_content => k_is)
    (case l_fwith_content => k_is)
    (case c_fwith_content => k_is)
    (case k_fwith_content => k_is)
    (case a_fpassed => k_is)
    (case l_fpassed => k_is)
    (case c_fpassed => k_is)
    (case k_fpassed => k_is)
    (case a_fsettle => k_is)
    (case l_fsettle => k_is)
    (case c_fsettle => k_is)
    (case k_fsettle => k_is)
    (case a_fmoves => k_is)
    (case l_fmoves => k_is)
    (case c_fmoves => k_is)
    (case k_fmoves => k_is)
    (case a_f_law_holds => k_is)
    (case l_f_law_holds => k_is)
    (case c_f_law_holds => k_is)
    (case k_f_law_holds => k_is)
    (case a_flaw => k_is)
    (case l_flaw => k_is)
    (case c_flaw => k_is)
    (case k_flaw => k_is)
    (case z_abs => k_is)
    (case z_bool => k_is)
    (case z_int => k_is)
    (case z_isinstance => k_is)
    (case z_len => k_is)
    (case z_list => k_is)
    (case z_range => k_is)
    (case z_reversed => k_is)
    (case z_sorted => k_is)
    (case z_str => k_is)
    (case z_tuple => k_is)

