import PyProof.Rows.All
import Wide.All
import OpenK.AllK
import Wide.FinOn
import HandS.ForMost
import HandS.Defaults
import HandS.ForExc
import HandS.IsInst
import HandS.Wide
import HandS.Style
import HandS.HeadHook2
import HandS.WideBits
import HandS.TryOnly
import HandS.HeadHook1
import HandS.Zip
import HandS.Iter
import KE.GoesEnumKw
import HandS.ExcIs
import HandS.ExcField
import HandS.IntHex
import HandS.StrMore
import HandS.Text
import HandS.FStr
import HandS.ClsMeth
import HandS.ExcInit
import HandS.SuiteRaise
import HandS.RaiseFrom
import HandS.ExcInitHot
import KE.GoesRaise
import PyProof.AutoIntR1
import HandS.OwnEq
import HandS.HeadEnd
import PyProof.ReprRoads
import PyProof.Rows.RegStrFacts
import PyProof.Draws
import PyProof.EnumMake
import PyProof.InstEq
import HandS.Codes
import HandS.ExcValue
import PyProof.StrOps2
import PyProof.FitsStr
import KE.KStateDown
import HandS.Head0
import HandS.Head1
import HandS.Head2
import PySem.Challenge.RW_eitherslack_k15_refusals_made
set_option Elab.async false
set_option linter.all false
set_option maxRecDepth 100000
/-! The data layer, part 1: data, what a value of the heap stands for, owned and lent lists. -/
namespace DL
open PySem L2

/-- plain data, as the program's values stand for it -/
inductive D where
  | non | bl (b : Bool) | int (i : Int) | str (x : Str) | raw (v : V)
  | tup (l : List D) | lst (l : List D) | fz (l : List D) | ins (C : Addr) (ns : List Str) (l : List D) | exc (C : Addr) (ns : List Str) (l : List D)

/-- at a: an exception of the class at C, its dict d -/
def ExA (C : Addr) (d : Option Addr) (a : Addr) : HO := .ext fun h => ∃ (oe : Obj) (vs : Array Value), h.get? a = some oe ∧ Zc (.ref C) d oe ∧ oe.data = .fields vs
/-- a list that is not changed from now on -/
def SqF (K : PySem.W.Frag) (H : Hp) (a : Addr) (vs : List V) : Prop := (∃ o, H a = some (.frz o (.lst vs))) ∨ ((∀ H : Hp, SqL K H a vs) ∧ ∃ o, K.lookup a = some o)
/-- its fields -/
def xdOk (H : Hp) (d : Option Addr) (fs : List (Str × V)) : Prop := (d = none ∧ fs = []) ∨ ∃ dx, d = some dx ∧ H dx = some (.xd fs)
mutual
/-- v stands for the datum in H (read alone) -/
def RepR (K : PySem.W.Frag) (H : Hp) : D → V → Prop
  | .non, v => v = .non
  | .bl b, v => v = .bl b
  | .int i, v => v = .int i
  | .str x, v => v = .str x
  | .raw w, v => v = w
  | .tup l, v => ∃ a vs, v = .ref a ∧ SqT K H a vs ∧ RepRs K H l vs
  | .lst l, v => ∃ a vs, v = .ref a ∧ H a = some (.lst vs) ∧ RepRs K H l vs
  | .fz l, v => ∃ a vs, v = .ref a ∧ SqF K H a vs ∧ RepRs K H l vs
  | .ins C ns l, v => ∃ a dx fs, v = .ref a ∧ H a = some (.ins C dx fs) ∧ fs.map (·.1) = ns ∧ RepRs K H l (fs.map (·.2))
  | .exc C ns l, v => ∃ a d fs, v = .ref a ∧ H a = some (ExA C d a) ∧ xdOk H d fs ∧ fs.map (·.1) = ns ∧ RepRs K H l (fs.map (·.2))
def RepRs (K : PySem.W.Frag) (H : Hp) : List D → List V → Prop
  | [], vs => vs = []
  | d :: ds, vs => ∃ w ws, vs = w :: ws ∧ RepR K H d w ∧ RepRs K H ds ws
end

mutual
/-- .. and owns its lists: F, each once -/
def RepO (K : PySem.W.Frag) (H : Hp) : D → V → List Addr → Prop
  | .non, v, F => v = .non ∧ F = []
  | .bl b, v, F => v = .bl b ∧ F = []
  | .int i, v, F => v = .int i ∧ F = []
  | .str x, v, F => v = .str x ∧ F = []
  | .raw w, v, F => v = w ∧ F = []
  | .tup l, v, F => ∃ a vs, v = .ref a ∧ SqT K H a vs ∧ RepOs K H l vs F
  | .lst l, v, F => ∃ a vs G, v = .ref a ∧ H a = some (.lst vs) ∧ F = a :: G ∧ RepOs K H l vs G
  | .fz l, v, F => ∃ a vs, v = .ref a ∧ SqF K H a vs ∧ RepOs K H l vs F
  | .ins C ns l, v, F => ∃ a dx fs G, v = .ref a ∧ H a = some (.ins C dx fs) ∧ H dx = some (.own a) ∧ fs.map (·.1) = ns ∧ F = a :: dx :: G ∧ RepOs K H l (fs.map (·.2)) G
  | .exc C ns l, v, F => ∃ a d fs, v = .ref a ∧ H a = some (ExA C d a) ∧ xdOk H d fs ∧ fs.map (·.1) = ns ∧ RepOs K H l (fs.map (·.2)) F
def RepOs (K : PySem.W.Frag) (H : Hp) : List D → List V → List Addr → Prop
  | [], vs, F => vs = [] ∧ F = []
  | d :: ds, vs, F => ∃ w ws F1 F2, vs = w :: ws ∧ F = F1 ++ F2 ∧ RepO K H d w F1 ∧ RepOs K H ds ws F2
end

mutual
/-- no list in it -/
def D.flat : D → Bool
  | .tup l => D.flats l
  | .lst _ => false
  | .fz l => D.flats l
  | .ins _ _ _ => false
  | .exc _ _ l => D.flats l
  | _ => true
def D.flats : List D → Bool
  | [] => true
  | d :: ds => d.flat && D.flats ds
end

def Ex (H H' : Hp) : Prop := ∀ a o, H a = some o → H' a = some o
theorem Ex.refl (H : Hp) : Ex H H := fun _ _ h => h
theorem Ex.trans {H H1 H2 : Hp} (a : Ex H H1) (b : Ex H1 H2) : Ex H H2 := fun x o h => b x o (a x o h)
theorem Ex.new {H : Hp} {p : Addr} {o : HO} (h : H p = none) : Ex H (upd H p o) := fun a u e => by
  rw [upd_ne (ne_of_none e h)]
  exact e
theorem Ex.back {H H' : Hp} {p : Addr} (e : Ex H H') (h : H' p = none) : H p = none := by
  cases h1 : H p with
  | none => rfl
  | some o =>
    rw [e p o h1] at h
    cases h

/-- what never changes -/
def stab : HO → Prop
  | .tup _ => True
  | .frz _ _ => True
  | .ext _ => True
  | .xd _ => True
  | _ => False
def TK (H H' : Hp) : Prop := ∀ a o, H a = some o → stab o → H' a = some o
theorem Ex.tk {H H' : Hp} (e : Ex H H') : TK H H' := fun a o h _ => e a o h
theorem TK.refl (H : Hp) : TK H H := fun _ _ h _ => h
theorem TK.upd {H : Hp} {a : Addr} {o u : HO} (h : H a = some o) (n : ¬ stab o) : TK H (upd H a u) := fun b x e s => by
  have nb : b ≠ a := by
    intro z
    subst z
    rw [h] at e
    cases e
    exact n s
  rw [upd_ne nb]
  exact e
theorem TK.sqt {K : PySem.W.Frag} {H H' : Hp} {a : Addr} {vs : List V} (t : TK H H') (h : SqT K H a vs) : SqT K H' a vs := by
  rcases h with (h | ⟨o, h⟩) | h
  · exact .inl (.inl (t _ _ h trivial))
  · exact .inl (.inr ⟨o, t _ _ h trivial⟩)
  · exact .inr h
theorem TK.xd {H H' : Hp} {d : Option Addr} {fs : List (Str × V)} (t : TK H H') (h : xdOk H d fs) : xdOk H' d fs := by
  rcases h with h | ⟨dx, e, h⟩
  · exact .inl h
  · exact .inr ⟨dx, e, t _ _ h trivial⟩
theorem TK.exa {H H' : Hp} {C : Addr} {d : Option Addr} {a : Addr} (t : TK H H') (h : H a = some (ExA C d a)) : H' a = some (ExA C d a) := t _ _ h trivial
theorem SqF.sql {K : PySem.W.Frag} {H : Hp} {a : Addr} {vs : List V} (h : SqF K H a vs) : SqL K H a vs := h.elim (fun h => .inl (.inr h)) fun h => h.1 H
theorem TK.sqf {K : PySem.W.Frag} {H H' : Hp} {a : Addr} {vs : List V} (t : TK H H') (h : SqF K H a vs) : SqF K H' a vs := h.imp (fun h => h.imp fun _ e => t _ _ e trivial) id
theorem Ex.sqt {K : PySem.W.Frag} {H H' : Hp} {a : Addr} {vs : List V} (t : Ex H H') (h : SqT K H a vs) : SqT K H' a vs := t.tk.sqt h
theorem Ex.sql {K : PySem.W.Frag} {H H' : Hp} {a : Addr} {vs : List V} (t : Ex H H') (h : SqL K H a vs) : SqL K H' a vs := by
  rcases h with (h | ⟨o, h⟩) | h
  · exact .inl (.inl (t _ _ h))
  · exact .inl (.inr ⟨o, t _ _ h⟩)
  · exact .inr h

open Classical in
/-- H at P alone, and at what never changes -/
noncomputable def restr (H : Hp) (P : Addr → Prop) : Hp := fun a => if P a ∨ (∃ o, H a = some o ∧ stab o) then H a else none
theorem restr_ex {H : Hp} {P : Addr → Prop} : Ex (restr H P) H := fun a o h => by
  unfold restr at h
  split at h
  · exact h
  · cases h
theorem restr_at {H : Hp} {P : Addr → Prop} {a : Addr} (h : P a) : restr H P a = H a := by
  unfold restr
  rw [if_pos (.inl h)]
theorem restr_tk {H : Hp} {P : Addr → Prop} : TK H (restr H P) := fun a o h s => by
  unfold restr
  rw [if_pos (.inr ⟨o, h, s⟩)]
  exact h
theorem restr_mono {H H' : Hp} {P Q : Addr → Prop} (t : TK H H') (k : ∀ a o, P a → H a = some o → H' a = some o ∧ Q a) : Ex (restr H P) (restr H' Q) := fun a o h => by
  unfold restr at h
  split at h
  · rename_i c
    rcases c with c | ⟨u, e, s⟩
    · obtain ⟨e, q⟩ := k a o c h
      rw [restr_at q]
      exact e
    · rw [h] at e
      cases e
      exact restr_tk a o (t a o h s) s
  · cases h

section
variable {K : PySem.W.Frag} {H H' : Hp}
mutual
theorem RepR.mono (e : Ex H H') : ∀ {d : D} {v : V}, RepR K H d v → RepR K H' d v
  | .non, _, h => by unfold RepR at h ⊢; exact h
  | .bl _, _, h => by unfold RepR at h ⊢; exact h
  | .int _, _, h => by unfold RepR at h ⊢; exact h
  | .str _, _, h => by unfold RepR at h ⊢; exact h
  | .raw _, _, h => by unfold RepR at h ⊢; exact h
  | .tup l, _, h => by
    unfold RepR at h ⊢
    obtain ⟨a, vs, e1, e2, e3⟩ := h
    exact ⟨a, vs, e1, e.sqt e2, RepRs.mono e e3⟩
  | .lst l, _, h => by
    unfold RepR at h ⊢
    obtain ⟨a, vs, e1, e2, e3⟩ := h
    exact ⟨a, vs, e1, e _ _ e2, RepRs.mono e e3⟩
  | .fz l, _, h => by
    unfold RepR at h ⊢
    obtain ⟨a, vs, e1, e2, e3⟩ := h
    exact ⟨a, vs, e1, e.tk.sqf e2, RepRs.mono e e3⟩
  | .ins C ns l, _, h => by
    unfold RepR at h ⊢
    obtain ⟨a, dx, fs, e1, e2, e3, e4⟩ := h
    exact ⟨a, dx, fs, e1, e _ _ e2, e3, RepRs.mono e e4⟩
  | .exc C ns l, _, h => by
    unfold RepR at h ⊢
    obtain ⟨a, d, fs, e1, e2, e3, e4, e5⟩ := h
    exact ⟨a, d, fs, e1, e.tk.exa e2, e.tk.xd e3, e4, RepRs.mono e e5⟩
theorem RepRs.mono (e : Ex H H') : ∀ {ds : List D} {vs : List V}, RepRs K H ds vs → RepRs K H' ds vs
  | [], _, h => by unfold RepRs at h ⊢; exact h
  | d :: ds, _, h => by
    unfold RepRs at h ⊢
    obtain ⟨w, ws, e1, e2, e3⟩ := h
    exact ⟨w, ws, e1, RepR.mono e e2, RepRs.mono e e3⟩
end
mutual
theorem RepO.frame (t : TK H H') : ∀ {d : D} {v : V} {F : List Addr}, RepO K H d v F → (∀ a ∈ F, H' a = H a) → RepO K H' d v F
  | .non, _, _, h, _ => by unfold RepO at h ⊢; exact h
  | .bl _, _, _, h, _ => by unfold RepO at h ⊢; exact h
  | .int _, _, _, h, _ => by unfold RepO at h ⊢; exact h
  | .str _, _, _, h, _ => by unfold RepO at h ⊢; exact h
  | .raw _, _, _, h, _ => by unfold RepO at h ⊢; exact h
  | .tup l, _, _, h, k => by
    unfold RepO at h ⊢
    obtain ⟨a, vs, e1, e2, e3⟩ := h
    exact ⟨a, vs, e1, t.sqt e2, RepOs.frame t e3 k⟩
  | .lst l, _, _, h, k => by
    unfold RepO at h ⊢
    obtain ⟨a, vs, G, e1, e2, e3, e4⟩ := h
    subst e3
    exact ⟨a, vs, G, e1, (k a List.mem_cons_self).trans e2, rfl, RepOs.frame t e4 fun b hb => k b (List.mem_cons_of_mem _ hb)⟩
  | .fz l, _, _, h, k => by
    unfold RepO at h ⊢
    obtain ⟨a, vs, e1, e2, e3⟩ := h
    exact ⟨a, vs, e1, t.sqf e2, RepOs.frame t e3 k⟩
  | .ins C ns l, _, _, h, k => by
    unfold RepO at h ⊢
    obtain ⟨a, dx, fs, G, e1, e2, e3, e4, e5, e6⟩ := h
    subst e5
    exact ⟨a, dx, fs, G, e1, (k a List.mem_cons_self).trans e2, (k dx (List.mem_cons_of_mem _ List.mem_cons_self)).trans e3, e4, rfl, RepOs.frame t e6 fun b hb => k b (List.mem_cons_of_mem _ (List.mem_cons_of_mem _ hb))⟩
  | .exc C ns l, _, _, h, k => by
    unfold RepO at h ⊢
    obtain ⟨a, d, fs, e1, e2, e3, e4, e5⟩ := h
    exact ⟨a, d, fs, e1, t.exa e2, t.xd e3, e4, RepOs.frame t e5 k⟩
theorem RepOs.frame (t : TK H H') : ∀ {ds : List D} {vs : List V} {F : List Addr}, RepOs K H ds vs F → (∀ a ∈ F, H' a = H a) → RepOs K H' ds vs F
  | [], _, _, h, _ => by unfold RepOs at h ⊢; exact h
  | d :: ds, _, _, h, k => by
    unfold RepOs at h ⊢
    obtain ⟨w, ws, F1, F2, e1, e2, e3, e4⟩ := h
    subst e2
    exact ⟨w, ws, F1, F2, e1, rfl, RepO.frame t e3 fun b hb => k b (List.mem_append_left _ hb), RepOs.frame t e4 fun b hb => k b (List.mem_append_right _ hb)⟩
end
mutual
theorem RepO.dom : ∀ {d : D} {v : V} {F : List Addr}, RepO K H d v F → ∀ a ∈ F, ∃ o, H a = some o ∧ ¬ stab o
  | .non, _, _, h, a, m => by unfold RepO at h; rw [h.2] at m; cases m
  | .bl _, _, _, h, a, m => by unfold RepO at h; rw [h.2] at m; cases m
  | .int _, _, _, h, a, m => by unfold RepO at h; rw [h.2] at m; cases m
  | .str _, _, _, h, a, m => by unfold RepO at h; rw [h.2] at m; cases m
  | .raw _, _, _, h, a, m => by unfold RepO at h; rw [h.2] at m; cases m
  | .tup l, _, _, h, a, m => by
    unfold RepO at h
    obtain ⟨_, vs, e1, e2, e3⟩ := h
    exact RepOs.dom e3 a m
  | .lst l, _, _, h, a, m => by
    unfold RepO at h
    obtain ⟨b, vs, G, e1, e2, e3, e4⟩ := h
    subst e3
    rcases List.mem_cons.mp m with rfl | m
    · exact ⟨_, e2, fun z => z⟩
    · exact RepOs.dom e4 a m
  | .fz l, _, _, h, a, m => by
    unfold RepO at h
    obtain ⟨_, vs, e1, e2, e3⟩ := h
    exact RepOs.dom e3 a m
  | .ins C ns l, _, _, h, a, m => by
    unfold RepO at h
    obtain ⟨b, dx, fs, G, e1, e2, e3, e4, e5, e6⟩ := h
    subst e5
    rcases List.mem_cons.mp m with rfl | m
    · exact ⟨_, e2, fun z => z⟩
    · rcases List.mem_cons.mp m with rfl | m
      · exact ⟨_, e3, fun z => z⟩
      · exact RepOs.dom e6 a m
  | .exc C ns l, _, _, h, a, m => by
    unfold RepO at h
    obtain ⟨b, d, fs, e1, e2, e3, e4, e5⟩ := h
    exact RepOs.dom e5 a m
theorem RepOs.dom : ∀ {ds : List D} {vs : List V} {F : List Addr}, RepOs K H ds vs F → ∀ a ∈ F, ∃ o, H a = some o ∧ ¬ stab o
  | [], _, _, h, a, m => by unfold RepOs at h; rw [h.2] at m; cases m
  | d :: ds, _, _, h, a, m => by
    unfold RepOs at h
    obtain ⟨w, ws, F1, F2, e1, e2, e3, e4⟩ := h
    subst e2
    rcases List.mem_append.mp m with m | m
    · exact RepO.dom e3 a m
    · exact RepOs.dom e4 a m
end
mutual
theorem RepO.toR : ∀ {d : D} {v : V} {F : List Addr} {P : Addr → Prop}, RepO K H d v F → (∀ a ∈ F, P a) → RepR K (restr H P) d v
  | .non, _, _, _, h, _ => by unfold RepO at h; unfold RepR; exact h.1
  | .bl _, _, _, _, h, _ => by unfold RepO at h; unfold RepR; exact h.1
  | .int _, _, _, _, h, _ => by unfold RepO at h; unfold RepR; exact h.1
  | .str _, _, _, _, h, _ => by unfold RepO at h; unfold RepR; exact h.1
  | .raw _, _, _, _, h, _ => by unfold RepO at h; unfold RepR; exact h.1
  | .tup l, _, _, _, h, k => by
    unfold RepO at h
    unfold RepR
    obtain ⟨a, vs, e1, e2, e3⟩ := h
    exact ⟨a, vs, e1, restr_tk.sqt e2, RepOs.toR e3 k⟩
  | .lst l, _, _, _, h, k => by
    unfold RepO at h
    unfold RepR
    obtain ⟨a, vs, G, e1, e2, e3, e4⟩ := h
    subst e3
    exact ⟨a, vs, e1, (restr_at (k a List.mem_cons_self)).trans e2, RepOs.toR e4 fun b hb => k b (List.mem_cons_of_mem _ hb)⟩
  | .fz l, _, _, _, h, k => by
    unfold RepO at h
    unfold RepR
    obtain ⟨a, vs, e1, e2, e3⟩ := h
    exact ⟨a, vs, e1, restr_tk.sqf e2, RepOs.toR e3 k⟩
  | .ins C ns l, _, _, _, h, k => by
    unfold RepO at h
    unfold RepR
    obtain ⟨a, dx, fs, G, e1, e2, e3, e4, e5, e6⟩ := h
    subst e5
    exact ⟨a, dx, fs, e1, (restr_at (k a List.mem_cons_self)).trans e2, e4, RepOs.toR e6 fun b hb => k b (List.mem_cons_of_mem _ (List.mem_cons_of_mem _ hb))⟩
  | .exc C ns l, _, _, _, h, k => by
    unfold RepO at h
    unfold RepR
    obtain ⟨a, d, fs, e1, e2, e3, e4, e5⟩ := h
    exact ⟨a, d, fs, e1, restr_tk.exa e2, restr_tk.xd e3, e4, RepOs.toR e5 k⟩
theorem RepOs.toR : ∀ {ds : List D} {vs : List V} {F : List Addr} {P : Addr → Prop}, RepOs K H ds vs F → (∀ a ∈ F, P a) → RepRs K (restr H P) ds vs
  | [], _, _, _, h, _ => by unfold RepOs at h; unfold RepRs; exact h.1
  | d :: ds, _, _, _, h, k => by
    unfold RepOs at h
    unfold RepRs
    obtain ⟨w, ws, F1, F2, e1, e2, e3, e4⟩ := h
    subst e2
    exact ⟨w, ws, e1, RepO.toR e3 fun b hb => k b (List.mem_append_left _ hb), RepOs.toR e4 fun b hb => k b (List.mem_append_right _ hb)⟩
end
theorem RepO.rep {d : D} {v : V} {F : List Addr} (h : RepO K H d v F) : RepR K H d v := (h.toR (P := fun _ => True) fun _ _ => trivial).mono restr_ex
theorem RepOs.reps {d : List D} {v : List V} {F : List Addr} (h : RepOs K H d v F) : RepRs K H d v := (h.toR (P := fun _ => True) fun _ _ => trivial).mono restr_ex
mutual
theorem RepO.nil_of : ∀ {d : D} {v : V} {F : List Addr}, RepO K H d v F → d.flat = true → F = []
  | .non, _, _, h, _ => by unfold RepO at h; exact h.2
  | .bl _, _, _, h, _ => by unfold RepO at h; exact h.2
  | .int _, _, _, h, _ => by unfold RepO at h; exact h.2
  | .str _, _, _, h, _ => by unfold RepO at h; exact h.2
  | .raw _, _, _, h, _ => by unfold RepO at h; exact h.2
  | .tup l, _, _, h, z => by
    unfold RepO at h
    unfold D.flat at z
    obtain ⟨_, vs, e1, e2, e3⟩ := h
    exact RepOs.nil_of e3 z
  | .lst l, _, _, h, z => by unfold D.flat at z; cases z
  | .fz l, _, _, h, z => by
    unfold RepO at h
    unfold D.flat at z
    obtain ⟨_, vs, e1, e2, e3⟩ := h
    exact RepOs.nil_of e3 z
  | .ins C ns l, _, _, h, z => by unfold D.flat at z; cases z
  | .exc C ns l, _, _, h, z => by
    unfold RepO at h
    unfold D.flat at z
    obtain ⟨_, _, _, e1, e2, e3, e4, e5⟩ := h
    exact RepOs.nil_of e5 z
theorem RepOs.nil_of : ∀ {ds : List D} {vs : List V} {F : List Addr}, RepOs K H ds vs F → D.flats ds = true → F = []
  | [], _, _, h, _ => by unfold RepOs at h; exact h.2
  | d :: ds, _, _, h, z => by
    unfold RepOs at h
    unfold D.flats at z
    rw [Bool.and_eq_true] at z
    obtain ⟨w, ws, F1, F2, e1, e2, e3, e4⟩ := h
    rw [e2, RepO.nil_of e3 z.1, RepOs.nil_of e4 z.2]
    rfl
end
mutual
theorem RepR.flatO : ∀ {d : D} {v : V}, RepR K H d v → d.flat = true → RepO K H d v []
  | .non, _, h, _ => by unfold RepR at h; unfold RepO; exact ⟨h, rfl⟩
  | .bl _, _, h, _ => by unfold RepR at h; unfold RepO; exact ⟨h, rfl⟩
  | .int _, _, h, _ => by unfold RepR at h; unfold RepO; exact ⟨h, rfl⟩
  | .str _, _, h, _ => by unfold RepR at h; unfold RepO; exact ⟨h, rfl⟩
  | .raw _, _, h, _ => by unfold RepR at h; unfold RepO; exact ⟨h, rfl⟩
  | .tup l, _, h, z => by
    unfold RepR at h
    unfold D.flat at z
    unfold RepO
    obtain ⟨a, vs, e1, e2, e3⟩ := h
    exact ⟨a, vs, e1, e2, RepRs.flatO e3 z⟩
  | .lst l, _, h, z => by unfold D.flat at z; cases z
  | .fz l, _, h, z => by
    unfold RepR at h
    unfold D.flat at z
    unfold RepO
    obtain ⟨a, vs, e1, e2, e3⟩ := h
    exact ⟨a, vs, e1, e2, RepRs.flatO e3 z⟩
  | .ins C ns l, _, h, z => by unfold D.flat at z; cases z
  | .exc C ns l, _, h, z => by
    unfold RepR at h
    unfold D.flat at z
    unfold RepO
    obtain ⟨a, d, fs, e1, e2, e3, e4, e5⟩ := h
    exact ⟨a, d, fs, e1, e2, e3, e4, RepRs.flatO e5 z⟩
theorem RepRs.flatO : ∀ {ds : List D} {vs : List V}, RepRs K H ds vs → D.flats ds = true → RepOs K H ds vs []
  | [], _, h, _ => by unfold RepRs at h; unfold RepOs; exact ⟨h, rfl⟩
  | d :: ds, _, h, z => by
    unfold RepRs at h
    unfold D.flats at z
    rw [Bool.and_eq_true] at z
    unfold RepOs
    obtain ⟨w, ws, e1, e2, e3⟩ := h
    exact ⟨w, ws, [], [], e1, rfl, RepR.flatO e2 z.1, RepRs.flatO e3 z.2⟩
end
theorem RepRs.length : ∀ {ds : List D} {vs : List V}, RepRs K H ds vs → vs.length = ds.length
  | [], _, h => by unfold RepRs at h; subst h; rfl
  | d :: ds, _, h => by
    unfold RepRs at h
    obtain ⟨w, ws, e1, _, e3⟩ := h
    rw [e1, List.length_cons, List.length_cons, RepRs.length e3]
theorem RepRs.get : ∀ {ds : List D} {vs : List V} {i : Nat} {d : D}, RepRs K H ds vs → ds[i]? = some d → ∃ w, vs[i]? = some w ∧ RepR K H d w
  | [], _, i, _, h, e => by simp at e
  | d :: ds, _, 0, d', h, e => by
    unfold RepRs at h
    obtain ⟨w, ws, e1, e2, e3⟩ := h
    subst e1
    have z : d = d' := by simpa using e
    subst z
    exact ⟨w, rfl, e2⟩
  | d :: ds, _, i + 1, d', h, e => by
    unfold RepRs at h
    obtain ⟨w, ws, e1, e2, e3⟩ := h
    subst e1
    obtain ⟨u, h1, h2⟩ := RepRs.get (i := i) e3 (by simpa using e)
    exact ⟨u, by simpa using h1, h2⟩
theorem RepRs.append : ∀ {ds es : List D} {vs ws : List V}, RepRs K H ds vs → RepRs K H es ws → RepRs K H (ds ++ es) (vs ++ ws)
  | [], _, _, _, h, k => by unfold RepRs at h; rw [h]; exact k
  | d :: ds, _, _, _, h, k => by
    unfold RepRs at h
    obtain ⟨w, ws, e1, e2, e3⟩ := h
    subst e1
    rw [List.cons_append, List.cons_append]
    unfold RepRs
    exact ⟨w, _, rfl, e2, RepRs.append e3 k⟩
theorem RepOs.append : ∀ {ds es : List D} {vs ws : List V} {F G : List Addr}, RepOs K H ds vs F → RepOs K H es ws G → RepOs K H (ds ++ es) (vs ++ ws) (F ++ G)
  | [], _, _, _, _, _, h, k => by unfold RepOs at h; rw [h.1, h.2]; exact k
  | d :: ds, _, _, _, _, _, h, k => by
    unfold RepOs at h
    obtain ⟨w, ws, F1, F2, e1, e2, e3, e4⟩ := h
    subst e1 e2
    rw [List.cons_append, List.cons_append, List.append_assoc]
    unfold RepOs
    exact ⟨w, _, F1, _, rfl, rfl, e3, RepOs.append e4 k⟩
theorem RepOs.one {d : D} {v : V} {F : List Addr} (h : RepO K H d v F) : RepOs K H [d] [v] F := by
  unfold RepOs
  exact ⟨v, [], F, [], rfl, (List.append_nil F).symm, h, by unfold RepOs; exact ⟨rfl, rfl⟩⟩
end
end DL
/-! The data layer, part 2: what is held (slots and values on the way). -/
namespace DL
open PySem L2

/-- who owns lists: the variable in slot i, the k-th value on the way (from the bottom) -/
inductive Own where
  | v (i : Nat) | t (k : Nat)
  deriving DecidableEq
/-- what a slot holds: nothing that is told, owned data, data from outside, data that another one owns -/
inductive Slot where
  | no | own (d : D) | par (d : D) | view (o : Own) (d : D)

def ownOk (m : Nat → Prop) : Own → Prop
  | .v _ => True
  | .t k => m k
/-- the places m lie below n -/
def Low (m : Nat → Prop) (n : Nat) : Prop := ∀ k, m k → k < n
theorem Low.up {m : Nat → Prop} {n : Nat} (h : Low m n) : Low m (n + 1) := fun k q => Nat.lt_succ_of_lt (h k q)
theorem Low.self {n : Nat} : Low (fun k => k < n) n := fun _ q => q
theorem Low.add {m : Nat → Prop} {n j : Nat} (h : Low m n) : Low m (n + j) := fun k q => Nat.lt_of_lt_of_le (h k q) (Nat.le_add_right _ _)
def SlotOk (K : PySem.W.Frag) (B H : Hp) (fp : Own → List Addr) (m : Nat → Prop) (o : Own) (x : Option V) : Slot → Prop
  | .no => True
  | .own d => ∃ v, x = some v ∧ RepO K H d v (fp o)
  | .par d => ∃ v, x = some v ∧ RepR K B d v
  | .view o' d => ownOk m o' ∧ ∃ v, x = some v ∧ RepR K (restr H (fun a => a ∈ fp o' ∨ (B a).isSome = true)) d v

structure HeldF (K : PySem.W.Frag) (m : Nat → Prop) (B H : Hp) (fp : Own → List Addr) (σ : List (Option V)) (ss : List Slot) (tv : List V) (ts : List Slot) : Prop where
  base : Ex B H
  slen : σ.length = ss.length
  tlen : tv.length = ts.length
  mle : Low m ts.length
  var : ∀ i s, ss[i]? = some s → SlotOk K B H fp m (.v i) (σ[i]?.join) s
  tmp : ∀ k s, ts.reverse[k]? = some s → SlotOk K B H fp m (.t k) (tv.reverse[k]?) s
  disj : ∀ o o' a, a ∈ fp o → a ∈ fp o' → o = o'
  nod : ∀ o, (fp o).Nodup
  out : ∀ o a, a ∈ fp o → B a = none
  dom : ∀ o a, a ∈ fp o → ∃ u, H a = some u ∧ ¬ stab u
def Held (K : PySem.W.Frag) (m : Nat → Prop) (B H : Hp) (σ : List (Option V)) (ss : List Slot) (tv : List V) (ts : List Slot) : Prop := ∃ fp, HeldF K m B H fp σ ss tv ts

/-- a view of o is gone -/
def kill (o : Own) : Slot → Slot
  | .view o' d => if o' = o then .no else .view o' d
  | s => s
def noView (o : Own) : List Slot → Bool
  | [] => true
  | .view o' _ :: r => decide (o' ≠ o) && noView o r
  | _ :: r => noView o r
/-- a view of a value on the way, the n-th or a later one, is gone -/
def killT (n : Nat) : Slot → Slot
  | .view (.t k) d => if k < n then .view (.t k) d else .no
  | s => s

def fupd (fp : Own → List Addr) (o : Own) (F : List Addr) : Own → List Addr := fun o' => if o' = o then F else fp o'
theorem fupd_same {fp : Own → List Addr} {o : Own} {F : List Addr} : fupd fp o F o = F := if_pos rfl
theorem fupd_ne {fp : Own → List Addr} {o o' : Own} {F : List Addr} (h : o' ≠ o) : fupd fp o F o' = fp o' := if_neg h
theorem fupd_vt {fp : Own → List Addr} {k i : Nat} {F : List Addr} : fupd fp (.t k) F (.v i) = fp (.v i) := fupd_ne (fun z => Own.noConfusion z)
theorem fupd_tv {fp : Own → List Addr} {k i : Nat} {F : List Addr} : fupd fp (.v i) F (.t k) = fp (.t k) := fupd_ne (fun z => Own.noConfusion z)
theorem fupd_vv {fp : Own → List Addr} {j i : Nat} {F : List Addr} (h : j ≠ i) : fupd fp (.v i) F (.v j) = fp (.v j) := fupd_ne (fun z => h (Own.v.inj z))
theorem fupd_tt {fp : Own → List Addr} {j i : Nat} {F : List Addr} (h : j ≠ i) : fupd fp (.t i) F (.t j) = fp (.t j) := fupd_ne (fun z => h (Own.t.inj z))
/-- what a slot's value brings along -/
def brings : Slot → List Addr → List Addr
  | .own _, F => F
  | _, _ => []
section
variable {K : PySem.W.Frag} {B H H' : Hp} {fp fp' : Own → List Addr} {m m' : Nat → Prop} {o o' : Own} {x : Option V} {s r : Slot} {σ : List (Option V)} {ss ts : List Slot} {tv : List V} {v w : V} {d d' : D} {F F' : List Addr}
theorem SlotOk.congr (h : SlotOk K B H fp m o x s) (e : fp' o = fp o) (k : ∀ o', ownOk m o' → fp' o' = fp o') : SlotOk K B H fp' m o x s := by
  cases s with
  | no => trivial
  | own d => obtain ⟨v, e1, e2⟩ := h; exact ⟨v, e1, by rw [e]; exact e2⟩
  | par d => exact h
  | view o' d => obtain ⟨z, v, e1, e2⟩ := h; exact ⟨z, v, e1, by rw [k o' z]; exact e2⟩
/-- nothing owned: the owner's own footprint is not asked -/
theorem SlotOk.congrV (h : SlotOk K B H fp m o x s) (n : ∀ d, s ≠ .own d) (k : ∀ o', ownOk m o' → (∃ d, s = .view o' d) → fp' o' = fp o') {o2 : Own} : SlotOk K B H fp' m o2 x s := by
  cases s with
  | no => trivial
  | own d => exact absurd rfl (n d)
  | par d => exact h
  | view o' d => obtain ⟨z, v, e1, e2⟩ := h; exact ⟨z, v, e1, by rw [k o' z ⟨d, rfl⟩]; exact e2⟩
theorem SlotOk.heap (h : SlotOk K B H fp m o x s) (tk : TK H H') (kb : Ex B H') (hb : Ex B H) (k1 : ∀ a ∈ fp o, H' a = H a) (k2 : ∀ o' d, s = .view o' d → ∀ a ∈ fp o', H' a = H a) : SlotOk K B H' fp m o x s := by
  cases s with
  | no => trivial
  | own d => obtain ⟨v, e1, e2⟩ := h; exact ⟨v, e1, e2.frame tk k1⟩
  | par d => exact h
  | view o' d =>
    obtain ⟨z, v, e1, e2⟩ := h
    refine ⟨z, v, e1, e2.mono (restr_mono tk fun a u p e => ⟨?_, p⟩)⟩
    rcases p with p | p
    · rw [k2 o' d rfl a p]; exact e
    · cases q : B a with
      | none => rw [q] at p; cases p
      | some y =>
        have e3 := hb a y q
        rw [e] at e3
        cases e3
        exact kb a _ q
theorem SlotOk.more (h : SlotOk K B H fp m o x s) (e : ∀ k, m k → m' k) : SlotOk K B H fp m' o x s := by
  cases s with
  | no => trivial
  | own d => exact h
  | par d => exact h
  | view o' d =>
    obtain ⟨z, q⟩ := h
    refine ⟨?_, q⟩
    cases o' with
    | v i => trivial
    | t k => exact e k z
/-- what a slot lets be read -/
theorem SlotOk.read (h : SlotOk K B H fp m o x s) (b : Ex B H) (e : s = .own d ∨ s = .par d ∨ ∃ o', s = .view o' d) : ∃ v, x = some v ∧ RepR K H d v := by
  rcases e with rfl | rfl | ⟨o', rfl⟩
  · obtain ⟨v, e1, e2⟩ := h; exact ⟨v, e1, e2.rep⟩
  · obtain ⟨v, e1, e2⟩ := h; exact ⟨v, e1, e2.mono b⟩
  · obtain ⟨_, v, e1, e2⟩ := h; exact ⟨v, e1, e2.mono restr_ex⟩

theorem HeldF.heap (h : HeldF K m B H fp σ ss tv ts) (tk : TK H H') (kb : Ex B H') (k : ∀ o a, a ∈ fp o → H' a = H a) : HeldF K m B H' fp σ ss tv ts :=
  ⟨kb, h.slen, h.tlen, h.mle, fun i s e => (h.var i s e).heap tk kb h.base (k _) fun _ _ _ => k _, fun i s e => (h.tmp i s e).heap tk kb h.base (k _) fun _ _ _ => k _, h.disj, h.nod, h.out, fun o a e => by
    obtain ⟨u, q, n⟩ := h.dom o a e
    exact ⟨u, (k o a e).trans q, n⟩⟩
theorem HeldF.ex (h : HeldF K m B H fp σ ss tv ts) (e : Ex H H') : HeldF K m B H' fp σ ss tv ts := h.heap e.tk (h.base.trans e) fun o a q => by
  obtain ⟨u, q, _⟩ := h.dom o a q
  rw [e a u q, q]
theorem Held.ex (h : Held K m B H σ ss tv ts) (e : Ex H H') : Held K m B H' σ ss tv ts := let ⟨fp, h⟩ := h; ⟨fp, h.ex e⟩

theorem rev_push {α : Type} {l : List α} {y x : α} {k : Nat} (e : (y :: l).reverse[k]? = some x) : (k < l.length ∧ l.reverse[k]? = some x) ∨ (k = l.length ∧ x = y) := by
  rw [List.reverse_cons] at e
  by_cases hk : k < l.length
  · rw [List.getElem?_append_left (by simpa using hk)] at e
    exact .inl ⟨hk, e⟩
  · rw [List.getElem?_append_right (by simpa using Nat.le_of_not_lt hk)] at e
    have z := List.getElem?_eq_some_iff.mp e
    obtain ⟨z1, z2⟩ := z
    simp only [List.length_reverse, List.length_singleton] at z1
    have z3 : k = l.length := by omega
    refine .inr ⟨z3, ?_⟩
    subst z3
    simpa using z2.symm
theorem rev_old {α : Type} {l : List α} {y : α} {k : Nat} (hk : k < l.length) : (y :: l).reverse[k]? = l.reverse[k]? := by
  rw [List.reverse_cons, List.getElem?_append_left (by simpa using hk)]
theorem rev_top {α : Type} {l : List α} {y : α} : (y :: l).reverse[l.length]? = some y := by
  rw [List.reverse_cons, List.getElem?_append_right (by simp)]
  simp

/-- a value on the way, owned -/
theorem HeldF.push (h : HeldF K m B H fp σ ss tv ts) (q : RepO K H d v F) (nd : F.Nodup) (dj : ∀ a ∈ F, ∀ o, o ≠ .t ts.length → a ∉ fp o) (ot : ∀ a ∈ F, B a = none) :
    HeldF K m B H (fupd fp (.t ts.length) F) σ ss (v :: tv) (.own d :: ts) := by
  have hm : ∀ o, ownOk m o → o ≠ .t ts.length := fun o z e => by
    subst e
    exact absurd (h.mle _ z) (Nat.lt_irrefl _)
  refine ⟨h.base, h.slen, by simp [h.tlen], h.mle.up, fun i s e => ?_, fun k s e => ?_, fun o o' a => ?_, fun o => ?_, fun o a => ?_, fun o a => ?_⟩
  · refine (h.var i s e).congr ?_ fun o' z => ?_
    · rw [fupd_vt]
    · rw [fupd_ne (hm o' z)]
  · rcases rev_push e with ⟨hk, e0⟩ | ⟨hk, e0⟩
    · have z := h.tmp k s e0
      rw [rev_old (by rw [h.tlen]; exact hk)]
      refine z.congr ?_ fun o' z => ?_
      · rw [fupd_tt (by omega)]
      · rw [fupd_ne (hm o' z)]
    · clear e
      subst hk e0
      refine ⟨v, ?_, ?_⟩
      · rw [← h.tlen]; exact rev_top
      · rw [fupd_same]; exact q
  · show a ∈ (if o = .t ts.length then F else fp o) → a ∈ (if o' = .t ts.length then F else fp o') → o = o'
    by_cases h1 : o = .t ts.length
    · by_cases h2 : o' = .t ts.length
      · intro _ _; rw [h1, h2]
      · rw [if_pos h1, if_neg h2]; exact fun q1 q2 => absurd q2 (dj a q1 o' h2)
    · by_cases h2 : o' = .t ts.length
      · rw [if_neg h1, if_pos h2]; exact fun q1 q2 => absurd q1 (dj a q2 o h1)
      · rw [if_neg h1, if_neg h2]; exact h.disj o o' a
  · show (if o = .t ts.length then F else fp o).Nodup
    split
    · exact nd
    · exact h.nod o
  · show a ∈ (if o = .t ts.length then F else fp o) → _
    split
    · exact ot a
    · exact h.out o a
  · show a ∈ (if o = .t ts.length then F else fp o) → _
    split
    · exact q.dom a
    · exact h.dom o a
/-- .. new in H' -/
theorem HeldF.fresh (h : HeldF K m B H fp σ ss tv ts) (e : Ex H H') (q : RepO K H' d v F) (nd : F.Nodup) (nw : ∀ a ∈ F, H a = none) :
    HeldF K m B H' (fupd fp (.t ts.length) F) σ ss (v :: tv) (.own d :: ts) :=
  (h.ex e).push q nd (fun a ha o _ z => by
    obtain ⟨u, q, _⟩ := h.dom o a z
    rw [nw a ha] at q
    cases q) fun a ha => by
      cases z : B a with
      | none => rfl
      | some u =>
        have q := h.base a u z
        rw [nw a ha] at q
        cases q
/-- a value on the way that owns nothing -/
theorem HeldF.pushV (h : HeldF K m B H fp σ ss tv ts) (n : ∀ d, s ≠ .own d) (q : SlotOk K B H fp m o (some v) s) :
    HeldF K m B H (fupd fp (.t ts.length) []) σ ss (v :: tv) (s :: ts) := by
  have hm : ∀ o, ownOk m o → o ≠ .t ts.length := fun o z e => by
    subst e
    exact absurd (h.mle _ z) (Nat.lt_irrefl _)
  refine ⟨h.base, h.slen, by simp [h.tlen], h.mle.up, fun i s e => ?_, fun k s' e => ?_, fun o o' a => ?_, fun o => ?_, fun o a => ?_, fun o a => ?_⟩
  · refine (h.var i s e).congr ?_ fun o' z => ?_
    · rw [fupd_vt]
    · rw [fupd_ne (hm o' z)]
  · rcases rev_push e with ⟨hk, e0⟩ | ⟨hk, e0⟩
    · have z := h.tmp k s' e0
      rw [rev_old (by rw [h.tlen]; exact hk)]
      refine z.congr ?_ fun o' z => ?_
      · rw [fupd_tt (by omega)]
      · rw [fupd_ne (hm o' z)]
    · clear e
      subst hk e0
      rw [← h.tlen, rev_top]
      exact q.congrV n fun o' z _ => by rw [fupd_ne (by rw [h.tlen]; exact hm o' z)]
  · show a ∈ (if o = .t ts.length then [] else fp o) → a ∈ (if o' = .t ts.length then [] else fp o') → o = o'
    by_cases h1 : o = .t ts.length
    · rw [if_pos h1]; exact fun z => nomatch z
    · by_cases h2 : o' = .t ts.length
      · rw [if_pos h2]; exact fun _ z => nomatch z
      · rw [if_neg h1, if_neg h2]; exact h.disj o o' a
  · show (if o = .t ts.length then [] else fp o).Nodup
    split
    · exact List.nodup_nil
    · exact h.nod o
  · show a ∈ (if o = .t ts.length then [] else fp o) → _
    split
    · exact fun z => nomatch z
    · exact h.out o a
  · show a ∈ (if o = .t ts.length then [] else fp o) → _
    split
    · exact fun z => nomatch z
    · exact h.dom o a
theorem HeldF.pop (h : HeldF K m B H fp σ ss (v :: tv) (s :: ts)) (hm : Low m ts.length) : HeldF K m B H fp σ ss tv ts := by
  have hl : tv.length = ts.length := by have := h.tlen; simpa using this
  refine ⟨h.base, h.slen, hl, hm, h.var, fun k s' e => ?_, h.disj, h.nod, h.out, h.dom⟩
  have hk : k < ts.length := by
    have z := (List.getElem?_eq_some_iff.mp e).1
    simpa using z
  have z := h.tmp k s' (by rw [rev_old hk]; exact e)
  rw [rev_old (by rw [hl]; exact hk)] at z
  exact z
/-- the value on the way at the top -/
theorem HeldF.top (h : HeldF K m B H fp σ ss (v :: tv) (s :: ts)) : SlotOk K B H fp m (.t ts.length) (some v) s := by
  have hl : tv.length = ts.length := by have := h.tlen; simpa using this
  have z := h.tmp ts.length s rev_top
  rw [← hl, rev_top, hl] at z
  exact z
theorem Held.pop (h : Held K m B H σ ss (v :: tv) (s :: ts)) (hm : Low m ts.length) : Held K m B H σ ss tv ts := let ⟨fp, h⟩ := h; ⟨fp, h.pop hm⟩
/-- flat data on the way: any value that stands for it -/
theorem HeldF.pushF (h : HeldF K m B H fp σ ss tv ts) (q : RepO K H d v []) : HeldF K m B H (fupd fp (.t ts.length) []) σ ss (v :: tv) (.own d :: ts) :=
  h.push q List.nodup_nil (fun _ z => nomatch z) fun _ z => nomatch z
theorem Held.pushF (h : Held K m B H σ ss tv ts) (q : RepO K H d v []) : Held K m B H σ ss (v :: tv) (.own d :: ts) := let ⟨fp, h⟩ := h; ⟨_, h.pushF q⟩
theorem Held.fresh (h : Held K m B H σ ss tv ts) (e : Ex H H') (q : RepO K H' d v F) (nd : F.Nodup) (nw : ∀ a ∈ F, H a = none) : Held K m B H' σ ss (v :: tv) (.own d :: ts) := let ⟨fp, h⟩ := h; ⟨_, h.fresh e q nd nw⟩
theorem Held.pushV (h : Held K m B H σ ss tv ts) (n : ∀ d, s ≠ .own d) (q : ∀ fp, HeldF K m B H fp σ ss tv ts → ∃ o, SlotOk K B H fp m o (some v) s) : Held K m B H σ ss (v :: tv) (s :: ts) := let ⟨fp, h⟩ := h; let ⟨o, q⟩ := q fp h; ⟨_, h.pushV n q⟩

theorem noView_mem {o : Own} : ∀ {l : List Slot}, noView o l = true → ∀ s ∈ l, ∀ d, s ≠ .view o d
  | [], _, _, z, _ => nomatch z
  | .view o' d' :: r, h, s, z, d => by
    unfold noView at h
    rw [Bool.and_eq_true, decide_eq_true_eq] at h
    rcases List.mem_cons.mp z with rfl | z
    · intro q; injection q with q _; exact h.1 q
    · exact noView_mem h.2 s z d
  | .no :: r, h, s, z, d => by
    unfold noView at h
    rcases List.mem_cons.mp z with rfl | z
    · intro q; cases q
    · exact noView_mem h s z d
  | .own _ :: r, h, s, z, d => by
    unfold noView at h
    rcases List.mem_cons.mp z with rfl | z
    · intro q; cases q
    · exact noView_mem h s z d
  | .par _ :: r, h, s, z, d => by
    unfold noView at h
    rcases List.mem_cons.mp z with rfl | z
    · intro q; cases q
    · exact noView_mem h s z d
theorem kill_v {o o' : Own} {d : D} : kill o (.view o' d) = if o' = o then .no else .view o' d := rfl
theorem killT_t {n k : Nat} {d : D} : killT n (.view (.t k) d) = if k < n then .view (.t k) d else .no := rfl
theorem kill_view {o o' : Own} {s : Slot} {d : D} (e : kill o s = .view o' d) : s = .view o' d ∧ o' ≠ o := by
  cases s with
  | no => cases e
  | own _ => cases e
  | par _ => cases e
  | view o2 d2 =>
    rw [kill_v] at e
    split at e
    · cases e
    · rename_i n
      injection e with e1 e2
      subst e1 e2
      exact ⟨rfl, n⟩
theorem SlotOk.kill (h : SlotOk K B H fp m o x s) (o' : Own) : SlotOk K B H fp m o x (DL.kill o' s) := by
  cases s with
  | no => trivial
  | own _ => exact h
  | par _ => exact h
  | view o2 d2 =>
    rw [kill_v]
    split
    · trivial
    · exact h
theorem kill_own {o : Own} {s : Slot} {d : D} (e : kill o s = .own d) : s = .own d := by
  cases s with
  | no => cases e
  | own _ => exact e
  | par _ => cases e
  | view o2 d2 =>
    rw [kill_v] at e
    split at e <;> cases e

/-- the owner ow gives its lists away (they are F' now, of ow' = new data); views of ow must be gone. Both at once: slot i is set to r -/
theorem HeldF.assign (h : HeldF K m B H fp σ ss (v :: tv) (r :: ts)) (hm : Low m ts.length) {i : Nat} (hi : i < ss.length) (ht : noView (.v i) ts = true) (hr : ∀ d, r ≠ .view (.v i) d) :
    HeldF K m B H (fupd (fupd fp (.t ts.length) []) (.v i) (brings r (fp (.t ts.length)))) (σ.set i (some v)) ((ss.map (kill (.v i))).set i r) tv ts := by
  have hl : tv.length = ts.length := by have := h.tlen; simpa using this
  have hmt : ∀ o, ownOk m o → o ≠ .t ts.length := fun o z e => by
    subst e
    exact absurd (hm _ z) (Nat.lt_irrefl _)
  have sub : ∀ o a, a ∈ (if o = Own.v i then brings r (fp (.t ts.length)) else if o = Own.t ts.length then [] else fp o) → (o = .v i ∧ a ∈ fp (.t ts.length)) ∨ (o ≠ .v i ∧ o ≠ .t ts.length ∧ a ∈ fp o) := fun o a => by
    by_cases h1 : o = .v i
    · rw [if_pos h1]
      intro q
      refine .inl ⟨h1, ?_⟩
      cases r with
      | own d => exact q
      | no => exact nomatch q
      | par d => exact nomatch q
      | view o d => exact nomatch q
    · rw [if_neg h1]
      by_cases h2 : o = .t ts.length
      · rw [if_pos h2]; exact fun z => nomatch z
      · rw [if_neg h2]; exact fun q => .inr ⟨h1, h2, q⟩
  refine ⟨h.base, by simpa using h.slen, hl, hm, fun j s e => ?_, fun k s e => ?_, fun o o' a q1 q2 => ?_, fun o => ?_, fun o a q => ?_, fun o a q => ?_⟩
  · by_cases hj : j = i
    · subst hj
      rw [List.getElem?_set_self (by simpa using hi)] at e
      cases e
      have z := h.top
      have e1 : ((σ.set j (some v))[j]?).join = some v := by
        rw [List.getElem?_set_self (by rw [h.slen]; exact hi)]; rfl
      rw [e1]
      cases r with
      | no => trivial
      | own d =>
        obtain ⟨w, e2, e3⟩ := z
        refine ⟨w, e2, ?_⟩
        rw [fupd_same]
        exact e3
      | par d => exact z
      | view o' d =>
        obtain ⟨z1, w, e2, e3⟩ := z
        refine ⟨z1, w, e2, ?_⟩
        have n1 : o' ≠ .v j := fun z => hr d (by rw [z])
        rw [fupd_ne n1, fupd_ne (hmt o' z1)]
        exact e3
    · rw [List.getElem?_set_ne (Ne.symm hj), List.getElem?_map] at e
      rw [List.getElem?_set_ne (Ne.symm hj)]
      cases e1 : ss[j]? with
      | none => rw [e1] at e; cases e
      | some s1 =>
        rw [e1] at e
        have e2 : kill (.v i) s1 = s := Option.some.inj e
        have z := (h.var j s1 e1).kill (.v i)
        rw [e2] at z
        cases s with
        | no => trivial
        | par d => exact z
        | own d =>
          obtain ⟨w, e3, e4⟩ := z
          refine ⟨w, e3, ?_⟩
          rw [fupd_vv hj, fupd_vt]
          exact e4
        | view o' d =>
          obtain ⟨z1, w, e3, e4⟩ := z
          refine ⟨z1, w, e3, ?_⟩
          rw [fupd_ne (kill_view e2).2, fupd_ne (hmt o' z1)]
          exact e4
  · have hk : k < ts.length := by
      have z := (List.getElem?_eq_some_iff.mp e).1
      simpa using z
    have z := (h.pop hm).tmp k s e
    have ms : s ∈ ts := List.mem_reverse.mp (List.mem_of_getElem? e)
    cases s with
    | no => trivial
    | par d => exact z
    | own d =>
      obtain ⟨w, e3, e4⟩ := z
      refine ⟨w, e3, ?_⟩
      rw [fupd_tv, fupd_tt (by omega)]
      exact e4
    | view o' d =>
      obtain ⟨z1, w, e3, e4⟩ := z
      refine ⟨z1, w, e3, ?_⟩
      have n1 : o' ≠ .v i := fun z => noView_mem ht _ ms d (by rw [z])
      rw [fupd_ne n1, fupd_ne (hmt o' z1)]
      exact e4
  · rcases sub o a q1 with ⟨e1, p1⟩ | ⟨e1, e2, p1⟩
    · rcases sub o' a q2 with ⟨e3, p2⟩ | ⟨e3, e4, p2⟩
      · rw [e1, e3]
      · exact absurd (h.disj _ _ a p1 p2).symm e4
    · rcases sub o' a q2 with ⟨e3, p2⟩ | ⟨e3, e4, p2⟩
      · exact absurd (h.disj _ _ a p1 p2) e2
      · exact h.disj o o' a p1 p2
  · show (if o = Own.v i then brings r (fp (.t ts.length)) else if o = Own.t ts.length then [] else fp o).Nodup
    split
    · cases r with
      | own d => exact h.nod _
      | no => exact List.nodup_nil
      | par d => exact List.nodup_nil
      | view o d => exact List.nodup_nil
    · split
      · exact List.nodup_nil
      · exact h.nod o
  · rcases sub o a q with ⟨_, p⟩ | ⟨_, _, p⟩
    · exact h.out _ a p
    · exact h.out _ a p
  · rcases sub o a q with ⟨_, p⟩ | ⟨_, _, p⟩
    · exact h.dom _ a p
    · exact h.dom _ a p
theorem Held.assign (h : Held K m B H σ ss (v :: tv) (r :: ts)) (hm : Low m ts.length) {i : Nat} (hi : i < ss.length) (ht : noView (.v i) ts = true) (hr : ∀ d, r ≠ .view (.v i) d) :
    Held K m B H (σ.set i (some v)) ((ss.map (kill (.v i))).set i r) tv ts := let ⟨fp, h⟩ := h; ⟨_, h.assign hm hi ht hr⟩

/-- the lists of slot i are changed: new data of its own, out of its own lists, or of nobody's -/
theorem HeldF.change (h : HeldF K m B H fp σ ss tv ts) {i : Nat} (hx : (σ[i]?).join = some v) (hi : i < ss.length) (tk : TK H H')
    (keep : ∀ a o, a ∉ fp (.v i) → H a = some o → H' a = some o) (nw : RepO K H' d' v F') (nd : F'.Nodup) (dj : ∀ a ∈ F', a ∈ fp (.v i) ∨ ((∀ o, a ∉ fp o) ∧ B a = none)) (ht : noView (.v i) ts = true) :
    HeldF K m B H' (fupd fp (.v i) F') σ ((ss.map (kill (.v i))).set i (.own d')) tv ts := by
  have kb : Ex B H' := fun a u e => by
    refine keep a u (fun z => ?_) (h.base a u e)
    rw [h.out _ a z] at e
    cases e
  have kk : ∀ o, o ≠ .v i → ∀ a ∈ fp o, H' a = H a := fun o n a q => by
    obtain ⟨u, e, _⟩ := h.dom o a q
    rw [e]
    exact keep a u (fun z => n (h.disj _ _ a q z)) e
  have ob : ∀ a ∈ F', B a = none := fun a q => by
    rcases dj a q with z | ⟨_, z⟩
    · exact h.out _ a z
    · exact z
  have dd : ∀ o, o ≠ .v i → ∀ a ∈ F', a ∉ fp o := fun o n1 a q z => by
    rcases dj a q with p | ⟨p, _⟩
    · exact n1 (h.disj _ _ a z p)
    · exact p o z
  refine ⟨kb, by simpa using h.slen, h.tlen, h.mle, fun j s e => ?_, fun k s e => ?_, fun o o' a q1 q2 => ?_, fun o => ?_, fun o a => ?_, fun o a => ?_⟩
  · by_cases hj : j = i
    · subst hj
      rw [List.getElem?_set_self (by simpa using hi)] at e
      cases e
      refine ⟨v, hx, ?_⟩
      rw [fupd_same]
      exact nw
    · rw [List.getElem?_set_ne (Ne.symm hj), List.getElem?_map] at e
      cases e1 : ss[j]? with
      | none => rw [e1] at e; cases e
      | some s1 =>
        rw [e1] at e
        have e2 : kill (.v i) s1 = s := Option.some.inj e
        have z := (h.var j s1 e1).kill (.v i)
        rw [e2] at z
        have z2 : SlotOk K B H' fp m (.v j) ((σ[j]?).join) s := z.heap tk kb h.base (kk _ fun q => by injection q with q; exact hj q) fun o' d q => kk o' (kill_view (e2.trans q)).2
        cases s with
        | no => trivial
        | par d => exact z2
        | own d =>
          obtain ⟨w, e3, e4⟩ := z2
          refine ⟨w, e3, ?_⟩
          rw [fupd_vv hj]
          exact e4
        | view o' d =>
          obtain ⟨z1, w, e3, e4⟩ := z2
          refine ⟨z1, w, e3, ?_⟩
          rw [fupd_ne (kill_view e2).2]
          exact e4
  · have ms : s ∈ ts := List.mem_reverse.mp (List.mem_of_getElem? e)
    have z := h.tmp k s e
    have z2 : SlotOk K B H' fp m (.t k) (tv.reverse[k]?) s := z.heap tk kb h.base (kk _ fun q => nomatch q) fun o' d q => kk o' fun z => noView_mem ht _ ms d (by rw [q, z])
    cases s with
    | no => trivial
    | par d => exact z2
    | own d =>
      obtain ⟨w, e3, e4⟩ := z2
      refine ⟨w, e3, ?_⟩
      rw [fupd_tv]
      exact e4
    | view o' d =>
      obtain ⟨z1, w, e3, e4⟩ := z2
      refine ⟨z1, w, e3, ?_⟩
      have n1 : o' ≠ .v i := fun z => noView_mem ht _ ms d (by rw [z])
      rw [fupd_ne n1]
      exact e4
  · revert q1 q2
    show a ∈ (if o = Own.v i then F' else fp o) → a ∈ (if o' = Own.v i then F' else fp o') → o = o'
    by_cases h1 : o = .v i
    · by_cases h2 : o' = .v i
      · intro _ _; rw [h1, h2]
      · rw [if_pos h1, if_neg h2]
        exact fun q z => absurd z (dd o' h2 a q)
    · rw [if_neg h1]
      by_cases h2 : o' = .v i
      · rw [if_pos h2]; exact fun z q => absurd z (dd o h1 a q)
      · rw [if_neg h2]; exact h.disj o o' a
  · show (if o = Own.v i then F' else fp o).Nodup
    split
    · exact nd
    · exact h.nod o
  · show a ∈ (if o = Own.v i then F' else fp o) → _
    split
    · exact ob a
    · exact h.out o a
  · show a ∈ (if o = Own.v i then F' else fp o) → _
    split
    · exact nw.dom a
    · rename_i n1
      intro q
      obtain ⟨u, e, n⟩ := h.dom o a q
      exact ⟨u, by rw [kk o n1 a q]; exact e, n⟩
/-- the value of slot i is on the way from now on, the slot tells nothing -/
theorem HeldF.move (h : HeldF K m B H fp σ ss tv ts) {i : Nat} (hs : ss[i]? = some (.own d)) (ht : noView (.v i) ts = true) :
    ∃ v, σ[i]? = some (some v) ∧ HeldF K m B H (fupd (fupd fp (.v i) []) (.t ts.length) (fp (.v i))) σ ((ss.map (kill (.v i))).set i .no) (v :: tv) (.own d :: ts) := by
  obtain ⟨v, e1, e2⟩ := h.var i _ hs
  have ex : σ[i]? = some (some v) := by
    cases e : σ[i]? with
    | none => rw [e] at e1; cases e1
    | some y => rw [e] at e1; have z : y = some v := e1; rw [z]
  have hi : i < ss.length := (List.getElem?_eq_some_iff.mp hs).1
  have hmt : ∀ o, ownOk m o → o ≠ .t ts.length := fun o z e => by
    subst e
    exact absurd (h.mle _ z) (Nat.lt_irrefl _)
  have sub : ∀ o a, a ∈ (if o = Own.t ts.length then fp (.v i) else if o = Own.v i then [] else fp o) → (o = .t ts.length ∧ a ∈ fp (.v i)) ∨ (o ≠ .v i ∧ o ≠ .t ts.length ∧ a ∈ fp o) := fun o a => by
    by_cases h1 : o = .t ts.length
    · rw [if_pos h1]; exact fun q => .inl ⟨h1, q⟩
    · rw [if_neg h1]
      by_cases h2 : o = .v i
      · rw [if_pos h2]; exact fun z => nomatch z
      · rw [if_neg h2]; exact fun q => .inr ⟨h2, h1, q⟩
  refine ⟨v, ex, h.base, by simpa using h.slen, by simp [h.tlen], h.mle.up, fun j s e => ?_, fun k s e => ?_, fun o o' a q1 q2 => ?_, fun o => ?_, fun o a q => ?_, fun o a q => ?_⟩
  · by_cases hj : j = i
    · subst hj
      rw [List.getElem?_set_self (by simpa using hi)] at e
      cases e
      trivial
    · rw [List.getElem?_set_ne (Ne.symm hj), List.getElem?_map] at e
      cases e3 : ss[j]? with
      | none => rw [e3] at e; cases e
      | some s1 =>
        rw [e3] at e
        have e4 : kill (.v i) s1 = s := Option.some.inj e
        have z := (h.var j s1 e3).kill (.v i)
        rw [e4] at z
        cases s with
        | no => trivial
        | par d => exact z
        | own d =>
          obtain ⟨w, e5, e6⟩ := z
          refine ⟨w, e5, ?_⟩
          rw [fupd_vt, fupd_vv hj]
          exact e6
        | view o' d =>
          obtain ⟨z1, w, e5, e6⟩ := z
          refine ⟨z1, w, e5, ?_⟩
          rw [fupd_ne (hmt o' z1), fupd_ne (kill_view e4).2]
          exact e6
  · rcases rev_push e with ⟨hk, e0⟩ | ⟨hk, e0⟩
    · have z := h.tmp k s e0
      have ms : s ∈ ts := List.mem_reverse.mp (List.mem_of_getElem? e0)
      rw [rev_old (by rw [h.tlen]; exact hk)]
      cases s with
      | no => trivial
      | par d => exact z
      | own d =>
        obtain ⟨w, e5, e6⟩ := z
        refine ⟨w, e5, ?_⟩
        rw [fupd_tt (by omega), fupd_tv]
        exact e6
      | view o' d =>
        obtain ⟨z1, w, e5, e6⟩ := z
        refine ⟨z1, w, e5, ?_⟩
        have n1 : o' ≠ .v i := fun z => noView_mem ht _ ms d (by rw [z])
        rw [fupd_ne (hmt o' z1), fupd_ne n1]
        exact e6
    · clear e
      subst hk e0
      refine ⟨v, ?_, ?_⟩
      · rw [← h.tlen]; exact rev_top
      · rw [fupd_same]; exact e2
  · rcases sub o a q1 with ⟨e1, p1⟩ | ⟨e1, e2, p1⟩
    · rcases sub o' a q2 with ⟨e3, p2⟩ | ⟨e3, e4, p2⟩
      · rw [e1, e3]
      · exact absurd (h.disj _ _ a p2 p1) e3
    · rcases sub o' a q2 with ⟨e3, p2⟩ | ⟨e3, e4, p2⟩
      · exact absurd (h.disj _ _ a p1 p2) e1
      · exact h.disj o o' a p1 p2
  · show (if o = Own.t ts.length then fp (.v i) else if o = Own.v i then [] else fp o).Nodup
    split
    · exact h.nod _
    · split
      · exact List.nodup_nil
      · exact h.nod o
  · rcases sub o a q with ⟨_, p⟩ | ⟨_, _, p⟩
    · exact h.out _ a p
    · exact h.out _ a p
  · rcases sub o a q with ⟨_, p⟩ | ⟨_, _, p⟩
    · exact h.dom _ a p
    · exact h.dom _ a p
theorem Held.move (h : Held K m B H σ ss tv ts) {i : Nat} (hs : ss[i]? = some (.own d)) (ht : noView (.v i) ts = true) :
    ∃ v, σ[i]? = some (some v) ∧ Held K m B H σ ((ss.map (kill (.v i))).set i .no) (v :: tv) (.own d :: ts) := by
  obtain ⟨fp, h⟩ := h
  obtain ⟨v, e, q⟩ := h.move hs ht
  exact ⟨v, e, _, q⟩
/-- m more, and back -/
theorem HeldF.more (h : HeldF K m B H fp σ ss tv ts) (e : ∀ k, m k → m' k) (e2 : Low m' ts.length) : HeldF K m' B H fp σ ss tv ts :=
  ⟨h.base, h.slen, h.tlen, e2, fun i s q => (h.var i s q).more e, fun i s q => (h.tmp i s q).more e, h.disj, h.nod, h.out, h.dom⟩
theorem SlotOk.less {n : Nat} (h : SlotOk K B H fp m' o x s) (e : ∀ k, m' k → k < n → m k) : SlotOk K B H fp m o x (killT n s) := by
  cases s with
  | no => trivial
  | own _ => exact h
  | par _ => exact h
  | view o2 d2 =>
    cases o2 with
    | v i => obtain ⟨_, q⟩ := h; exact ⟨trivial, q⟩
    | t k =>
      rw [killT_t]
      split
      · rename_i c
        obtain ⟨z, q⟩ := h
        exact ⟨e k z c, q⟩
      · trivial
/-- views of values on the way, among these alone -/
def VOk (m : Nat → Prop) (ts : List Slot) : Prop := ∀ s ∈ ts, ∀ k d, s = .view (.t k) d → m k
theorem SlotOk.low (h : SlotOk K B H fp m' o x s) (e : ∀ k d, s = .view (.t k) d → m k) : SlotOk K B H fp m o x s := by
  cases s with
  | no => trivial
  | own _ => exact h
  | par _ => exact h
  | view o2 d2 =>
    obtain ⟨_, q⟩ := h
    refine ⟨?_, q⟩
    cases o2 with
    | v i => trivial
    | t k => exact e k d2 rfl
theorem HeldF.less {n : Nat} (h : HeldF K m' B H fp σ ss tv ts) (e1 : ∀ k, m' k → k < n → m k) (e2 : Low m ts.length) (e3 : VOk m ts) : HeldF K m B H fp σ (ss.map (killT n)) tv ts :=
  ⟨h.base, by simpa using h.slen, h.tlen, e2, fun i s q => by
    rw [List.getElem?_map] at q
    cases e4 : ss[i]? with
    | none => rw [e4] at q; cases q
    | some s1 =>
      rw [e4] at q
      have e2 : killT n s1 = s := Option.some.inj q
      rw [← e2]
      exact (h.var i s1 e4).less e1, fun i s q => (h.tmp i s q).low (e3 s (List.mem_reverse.mp (List.mem_of_getElem? q))), h.disj, h.nod, h.out, h.dom⟩
theorem HeldF.vok (h : HeldF K m B H fp σ ss tv ts) : VOk m ts := fun s hs k d e => by
  obtain ⟨j, hj⟩ := List.getElem?_of_mem (List.mem_reverse.mpr hs)
  have z := h.tmp j s hj
  subst e
  exact z.1
end
end DL
/-! The data layer, part 3: judgements over data, the rules of the plain constructs. -/
namespace DL
open PySem PySem.Spec PyProof.Rows L2

/-! ### the weakest readings -/
def wE (X : Cx) (e : Expr) : TE := fun σ H Q => ∀ pins s, Inv X pins σ H s → wpAny (model X.prog X.w) X.A (eval e X.env) (EP X pins σ Q) X.xe s
def wT (X : Cx) (e : Expr) : TT := fun σ H Q => ∀ pins s, Inv X pins σ H s → wpAny (model X.prog X.w) X.A (isTrue e X.env (eval e X.env)) (TP X pins σ Q) X.xe s
def wA (X : Cx) (es : List Expr) : TA := fun σ H Q => ∀ pos pins s, Inv X pins σ H s → wpAny (model X.prog X.w) X.A (spliced (backTo pos (starEach es X.env))) (AP X pins σ Q) X.xe s
def wS (X : Cx) (st : Stmt) : TS := fun D σ H => ∀ pins s, Inv X pins σ H s → wpAny (model X.prog X.w) X.A (exec st X.env) (SP X pins D) X.xe s
def wSs (X : Cx) (st : List Stmt) : TS := fun D σ H => ∀ pins s, Inv X pins σ H s → wpAny (model X.prog X.w) X.A (execs st X.env) (SP X pins D) X.xe s
def wG (X : Cx) (tg : Expr) : TG := fun v σ H Q => ∀ pins s u, Inv X pins σ H s → RelV v u → wpAny (model X.prog X.w) X.A (assign tg X.env u) (fun _ s' => ∃ σ' H', Inv X pins σ' H' s' ∧ Q σ' H') X.xe s
def wI (X : Cx) (tg it : Expr) : TI := fun σ H R => ∀ pins s, Inv X pins σ H s → wpAny (model X.prog X.w) X.A (eval it X.env) (fun v s1 => wpAny (model X.prog X.w) X.A (pyIter v) (PIE X pins σ tg R) X.xe s1) X.xe s
def wTs (X : Cx) (ifs : List Expr) : TT := fun σ H Q => ∃ t, PTs X ifs t ∧ t σ H Q
section
variable {X : Cx} {e : Expr}
theorem pe_w : PE X e (wE X e) := ⟨fun pins s _ _ _ I h => h pins s I⟩
theorem pt_w : PT X e (wT X e) := ⟨fun pins s _ _ _ I h => h pins s I⟩
theorem pa_w {es : List Expr} : PA X es (wA X es) := ⟨fun pos pins s _ _ _ I h => h pos pins s I⟩
theorem ps_w {st : Stmt} : PS X st (wS X st) := ⟨fun pins s _ _ _ I h => h pins s I⟩
theorem pss_w {st : List Stmt} : PSs X st (wSs X st) := ⟨fun pins s _ _ _ I h => h pins s I⟩
theorem pg_w {tg : Expr} : PG X tg (wG X tg) := ⟨fun pins s _ _ _ u _ I r h => h pins s u I r⟩
theorem pi_w {tg it : Expr} : PI X tg it (wI X tg it) := ⟨fun pins s _ _ _ I h => h pins s I⟩
theorem toE {t : TE} {σ : L2.St} {H : Hp} {Q : VK} (p : PE X e t) (q : t σ H Q) : wE X e σ H Q := fun pins s I => p.run pins s σ H Q I q
theorem toT {t : TT} {σ : L2.St} {H : Hp} {Q : Bool → Hp → Prop} (p : PT X e t) (q : t σ H Q) : wT X e σ H Q := fun pins s I => p.run pins s σ H Q I q
theorem toA {es : List Expr} {t : TA} {σ : L2.St} {H : Hp} {Q : List V → Hp → Prop} (p : PA X es t) (q : t σ H Q) : wA X es σ H Q := fun pos pins s I => p.run pos pins s σ H Q I q
theorem toS {st : Stmt} {t : TS} {σ : L2.St} {H : Hp} {D : Ends} (p : PS X st t) (q : t D σ H) : wS X st D σ H := fun pins s I => p.run pins s σ H D I q
theorem toSs {st : List Stmt} {t : TS} {σ : L2.St} {H : Hp} {D : Ends} (p : PSs X st t) (q : t D σ H) : wSs X st D σ H := fun pins s I => p.run pins s σ H D I q
theorem toG {tg : Expr} {t : TG} {v : V} {σ : L2.St} {H : Hp} {Q : L2.St → Hp → Prop} (p : PG X tg t) (q : t v σ H Q) : wG X tg v σ H Q := fun pins s u I r => p.run pins s σ H v u Q I r q
theorem toI {tg it : Expr} {t : TI} {σ : L2.St} {H : Hp} {R : It → Hp → Prop} (p : PI X tg it t) (q : t σ H R) : wI X tg it σ H R := fun pins s I => p.run pins s σ H R I q
end

/-! ### judgements -/
/-- an expression, from the slots ss and the values on the way ts: Φ of the slots behind and of the value -/
def EV (X : Cx) (e : Expr) (ss ts : List Slot) (Φ : List Slot → Slot → Prop) : Prop :=
  ∀ m B σ tv H Q, Low m ts.length → Held X.K m B H σ ss tv ts → (∀ ss' r v H', Φ ss' r → Held X.K m B H' σ ss' (v :: tv) (r :: ts) → Q v H') → wE X e σ H Q
def TV (X : Cx) (e : Expr) (ss ts : List Slot) (Φ : List Slot → Bool → Prop) : Prop :=
  ∀ m B σ tv H Q, Low m ts.length → Held X.K m B H σ ss tv ts → (∀ ss' b H', Φ ss' b → Held X.K m B H' σ ss' tv ts → Q b H') → wT X e σ H Q
/-- arguments: their values on the way, the last one at the top -/
def AV (X : Cx) (es : List Expr) (ss ts : List Slot) (Φ : List Slot → List Slot → Prop) : Prop :=
  ∀ m B σ tv H Q, Low m ts.length → Held X.K m B H σ ss tv ts → (∀ ss' rs vs H', Φ ss' rs → vs.length = rs.length → rs.length = es.length → Held X.K m B H' σ ss' (vs.reverse ++ tv) (rs.reverse ++ ts) → Q vs H') → wA X es σ H Q
/-- an item that a loop walks: one value, or a new pair -/
inductive El where
  | one (s : Slot) | two (s1 s2 : Slot)
def ElOk (K : PySem.W.Frag) (m : Nat → Prop) (B H : Hp) (σ : List (Option V)) (ss : List Slot) (tv : List V) (ts : List Slot) (x : V) : El → Prop
  | .one s => Held K m B H σ ss (x :: tv) (s :: ts)
  | .two s1 s2 => ∃ T x1 x2, x = .ref T ∧ SqT K H T [x1, x2] ∧ Held K m B H σ ss (x2 :: x1 :: tv) (s2 :: s1 :: ts)
/-- a target; only the slots as are stored -/
def GV (X : Cx) (tg : Expr) (as : List Nat) (el : El) (ss ts : List Slot) (N : List Slot → Prop) : Prop :=
  ∀ m B σ tv H x Q, Low m ts.length → ElOk X.K m B H σ ss tv ts x el → (∀ ss' σ' H', N ss' → Held X.K m B H' σ' ss' tv ts → (∀ i, i ∉ as → σ'[i]? = σ[i]?) ∧ σ'.length = σ.length → Q σ' H') → wG X tg x σ H Q
/-- what is walked: the values rs on the way (over n others), and the items -/
def IterOk (K : PySem.W.Frag) (n : Nat) (J : It) (rs : List Slot) (rv : List V) (els : List El) : Prop :=
  ∀ m B H σ ss ev es tv ts, Held K m B H σ ss (ev ++ (rv ++ tv)) (es ++ (rs ++ ts)) → ev.length = es.length → ts.length = n → (∀ k, n ≤ k → k < n + rs.length → m k) →
    (∀ i el, els[i]? = some el → J.go i H ∧ ∀ x H', J.yld i H x H' → ElOk K m B H' σ ss (ev ++ (rv ++ tv)) (es ++ (rs ++ ts)) x el) ∧ ∀ i, els.length ≤ i → J.stop i H
def IV (X : Cx) (tg it : Expr) (ss ts : List Slot) (Φ : List Slot → List Slot → List El → Prop) : Prop :=
  ∀ m B σ tv H R, Low m ts.length → Held X.K m B H σ ss tv ts →
    (∀ ss' rs rv els J H', Φ ss' rs els → rv.length = rs.length → Held X.K m B H' σ ss' (rv ++ tv) (rs ++ ts) → IterOk X.K ts.length J rs rv els → R J H') → wI X tg it σ H R

structure DE where
  nx : List Slot → Prop := fun _ => False
  rt : List Slot → Slot → Prop := fun _ _ => False
  bk : List Slot → Prop := fun _ => False
  ct : List Slot → Prop := fun _ => False
/-- E with another next; a turn of a loop over n values on the way; a while's turn -/
@[reducible] def DE.thn (E : DE) (N : List Slot → Prop) : DE := ⟨N, E.rt, E.bk, E.ct⟩
@[reducible] def DE.turn (E : DE) (I : List Slot → Prop) (n : Nat) : DE := ⟨I, fun s r => ∃ d, r = .own d ∧ E.rt (s.map (killT n)) (.own d), fun s => E.nx (s.map (killT n)), I⟩
@[reducible] def DE.wh (E : DE) (I : List Slot → Prop) : DE := ⟨I, E.rt, E.nx, I⟩
structure EndsOk (K : PySem.W.Frag) (B : Hp) (fx : List Nat) (σ0 : List (Option V)) (tv : List V) (ts : List Slot) (E : DE) (D : Ends) : Prop where
  nx : ∀ ss σ H, E.nx ss → Held K (fun k => k < ts.length) B H σ ss tv ts → (∀ i, i ∈ fx → σ[i]? = σ0[i]?) → D.nx σ H
  rt : ∀ ss r σ v H, E.rt ss r → Held K (fun k => k < ts.length) B H σ ss (v :: tv) (r :: ts) → (∀ i, i ∈ fx → σ[i]? = σ0[i]?) → D.rt v H
  bk : ∀ ss σ H, E.bk ss → Held K (fun k => k < ts.length) B H σ ss tv ts → (∀ i, i ∈ fx → σ[i]? = σ0[i]?) → D.bk σ H
  ct : ∀ ss σ H, E.ct ss → Held K (fun k => k < ts.length) B H σ ss tv ts → (∀ i, i ∈ fx → σ[i]? = σ0[i]?) → D.ct σ H
/-- a block; the slots fx are not stored -/
def SV (X : Cx) (fx : List Nat) (sts : List Stmt) (ss ts : List Slot) (E : DE) : Prop :=
  ∀ B σ tv H D, Held X.K (fun k => k < ts.length) B H σ ss tv ts → EndsOk X.K B fx σ tv ts E D → wSs X sts D σ H
/-- a statement -/
def S1 (X : Cx) (fx : List Nat) (st : Stmt) (ss ts : List Slot) (E : DE) : Prop :=
  ∀ B σ tv H D, Held X.K (fun k => k < ts.length) B H σ ss tv ts → EndsOk X.K B fx σ tv ts E D → wS X st D σ H

section
variable {X : Cx} {fx : List Nat} {ss ts : List Slot} {Φ Ψ : List Slot → Slot → Prop} {e a b c : Expr} {pos : Pos} {E : DE}

theorem EV.imp (h : EV X e ss ts Φ) (k : ∀ s r, Φ s r → Ψ s r) : EV X e ss ts Ψ := fun m B σ tv H Q hm hh q => h m B σ tv H Q hm hh fun s r v H' p => q s r v H' (k s r p)

/-! ### names, constants -/
theorem held_get {K : PySem.W.Frag} {m : Nat → Prop} {B H : Hp} {σ : List (Option V)} {tv : List V} {i : Nat} {s : Slot} (h : Held K m B H σ ss tv ts) (hs : ss[i]? = some s) {d : D} (hd : s = .own d ∨ s = .par d ∨ ∃ o, s = .view o d) :
    ∃ v, σ[i]? = some (some v) ∧ RepR K H d v := by
  obtain ⟨fp, h⟩ := h
  obtain ⟨v, e1, e2⟩ := (h.var i s hs).read h.base hd
  refine ⟨v, ?_, e2⟩
  cases e : σ[i]? with
  | none => rw [e] at e1; cases e1
  | some y => rw [e] at e1; have z : y = some v := e1; rw [z]
section
variable {i : Nat} {x : Str} {d : D} {o : Own}
/-- a slot of flat data -/
theorem ev_var (hN : X.N[i]? = some x) (hv : Vis X.env.scope x) (hs : ss[i]? = some (.own d)) (hf : d.flat = true) (q : Φ ss (.own d)) (hd : (x == ("__debug__" : Str)) = false := by decide) (hcd : (x == ("__classdict__" : Str)) = false := by decide) :
    EV X (.Name x pos) ss ts Φ := fun m B σ tv H Q hm h k => by
  refine toE (pe_var hN hv hd hcd) ?_
  obtain ⟨fp, h⟩ := h
  obtain ⟨v, e1, e2⟩ := h.var i _ hs
  have ex : σ[i]? = some (some v) := by
    cases e : σ[i]? with
    | none => rw [e] at e1; cases e1
    | some y => rw [e] at e1; have z : y = some v := e1; rw [z]
  rw [e2.nil_of hf] at e2
  exact ⟨v, ex, k ss _ v H q ⟨_, h.pushF e2⟩⟩
theorem ev_varP (hN : X.N[i]? = some x) (hv : Vis X.env.scope x) (hs : ss[i]? = some (.par d)) (q : Φ ss (.par d)) (hd : (x == ("__debug__" : Str)) = false := by decide) (hcd : (x == ("__classdict__" : Str)) = false := by decide) :
    EV X (.Name x pos) ss ts Φ := fun m B σ tv H Q hm h k => by
  refine toE (pe_var hN hv hd hcd) ?_
  obtain ⟨fp, h⟩ := h
  obtain ⟨v, e1, e2⟩ := h.var i _ hs
  have ex : σ[i]? = some (some v) := by
    cases e : σ[i]? with
    | none => rw [e] at e1; cases e1
    | some y => rw [e] at e1; have z : y = some v := e1; rw [z]
  exact ⟨v, ex, k ss _ v H q ⟨_, h.pushV (o := .v i) (fun _ z => nomatch z) ⟨v, rfl, e2⟩⟩⟩
theorem ev_varV (hN : X.N[i]? = some x) (hv : Vis X.env.scope x) (hs : ss[i]? = some (.view o d)) (q : Φ ss (.view o d)) (hd : (x == ("__debug__" : Str)) = false := by decide) (hcd : (x == ("__classdict__" : Str)) = false := by decide) :
    EV X (.Name x pos) ss ts Φ := fun m B σ tv H Q hm h k => by
  refine toE (pe_var hN hv hd hcd) ?_
  obtain ⟨fp, h⟩ := h
  obtain ⟨z, v, e1, e2⟩ := h.var i _ hs
  have ex : σ[i]? = some (some v) := by
    cases e : σ[i]? with
    | none => rw [e] at e1; cases e1
    | some y => rw [e] at e1; have z : y = some v := e1; rw [z]
  exact ⟨v, ex, k ss _ v H q ⟨_, h.pushV (o := .v i) (fun _ z => nomatch z) ⟨z, v, rfl, e2⟩⟩⟩
/-- owned lists, lent -/
theorem ev_varL (hN : X.N[i]? = some x) (hv : Vis X.env.scope x) (hs : ss[i]? = some (.own d)) (q : Φ ss (.view (.v i) d)) (hd : (x == ("__debug__" : Str)) = false := by decide) (hcd : (x == ("__classdict__" : Str)) = false := by decide) :
    EV X (.Name x pos) ss ts Φ := fun m B σ tv H Q hm h k => by
  refine toE (pe_var hN hv hd hcd) ?_
  obtain ⟨fp, h⟩ := h
  obtain ⟨v, e1, e2⟩ := h.var i _ hs
  have ex : σ[i]? = some (some v) := by
    cases e : σ[i]? with
    | none => rw [e] at e1; cases e1
    | some y => rw [e] at e1; have z : y = some v := e1; rw [z]
  exact ⟨v, ex, k ss _ v H q ⟨_, h.pushV (o := .v i) (fun _ z => nomatch z) ⟨trivial, v, rfl, e2.toR fun a ha => .inl ha⟩⟩⟩
/-- owned lists, given away -/
theorem ev_varM (hN : X.N[i]? = some x) (hv : Vis X.env.scope x) (hs : ss[i]? = some (.own d)) (ht : noView (.v i) ts = true) (q : Φ ((ss.map (kill (.v i))).set i .no) (.own d)) (hd : (x == ("__debug__" : Str)) = false := by decide) (hcd : (x == ("__classdict__" : Str)) = false := by decide) :
    EV X (.Name x pos) ss ts Φ := fun m B σ tv H Q hm h k => by
  refine toE (pe_var hN hv hd hcd) ?_
  obtain ⟨v, ex, h2⟩ := h.move hs ht
  exact ⟨v, ex, k _ _ v H q h2⟩
end
theorem ev_const {v : V} {d : D} (p : PE X e (tC v)) (r : ∀ H, RepO X.K H d v []) (q : Φ ss (.own d)) : EV X e ss ts Φ := fun m B σ tv H Q hm h k =>
  toE p (k ss _ v H q (h.pushF (r H)))
theorem ev_int {i j} (q : Φ ss (.own (.int i))) : EV X (.Constant (.int i) j pos) ss ts Φ := ev_const pe_int (fun H => by unfold RepO; exact ⟨rfl, rfl⟩) q
theorem ev_bl {i j} (q : Φ ss (.own (.bl i))) : EV X (.Constant (.bool i) j pos) ss ts Φ := ev_const pe_bl (fun H => by unfold RepO; exact ⟨rfl, rfl⟩) q
theorem ev_non {j} (q : Φ ss (.own .non)) : EV X (.Constant .none j pos) ss ts Φ := ev_const pe_non (fun H => by unfold RepO; exact ⟨rfl, rfl⟩) q
theorem ev_str {i j} (q : Φ ss (.own (.str i))) : EV X (.Constant (.str i) j pos) ss ts Φ := ev_const pe_str (fun H => by unfold RepO; exact ⟨rfl, rfl⟩) q

/-! ### the value at the top -/
/-- what is read of a slot that was on the way -/
def Slot.is (s : Slot) (d : D) : Prop := s = .own d ∨ s = .par d ∨ ∃ o, s = .view o d
theorem Slot.is_own {d : D} : Slot.is (.own d) d := .inl rfl
theorem Slot.is_par {d : D} : Slot.is (.par d) d := .inr (.inl rfl)
theorem Slot.is_view {d : D} {o : Own} : Slot.is (.view o d) d := .inr (.inr ⟨o, rfl⟩)
section
variable {K : PySem.W.Frag} {m : Nat → Prop} {B H : Hp} {σ : List (Option V)} {tv : List V} {v w : V} {s r : Slot} {d d' : D}
theorem Held.top (h : Held K m B H σ ss (v :: tv) (s :: ts)) (e : s.is d) : RepR K H d v := by
  obtain ⟨fp, h⟩ := h
  obtain ⟨w, e1, e2⟩ := h.top.read h.base e
  cases e1
  exact e2
theorem Held.top2 (h : Held K m B H σ ss (w :: v :: tv) (r :: s :: ts)) (e : s.is d) : RepR K H d v := by
  obtain ⟨fp, h⟩ := h
  have hl : tv.length = ts.length := by have := h.tlen; simpa using this
  have z := h.tmp ts.length s (by rw [rev_old (by simp)]; exact rev_top)
  rw [rev_old (by simp [hl])] at z
  rw [← hl, rev_top] at z
  obtain ⟨u, e1, e2⟩ := z.read h.base e
  cases e1
  exact e2
theorem rep_int {i : Int} {v : V} : RepR K H (.int i) v ↔ v = .int i := by unfold RepR; exact Iff.rfl
theorem rep_bl {i : Bool} {v : V} : RepR K H (.bl i) v ↔ v = .bl i := by unfold RepR; exact Iff.rfl
theorem rep_str {i : Str} {v : V} : RepR K H (.str i) v ↔ v = .str i := by unfold RepR; exact Iff.rfl
theorem rep_non {v : V} : RepR K H .non v ↔ v = .non := by unfold RepR; exact Iff.rfl
theorem rep_raw {u v : V} : RepR K H (.raw u) v ↔ v = u := by unfold RepR; exact Iff.rfl
theorem o_int {i : Int} : RepO K H (.int i) (.int i) [] := by unfold RepO; exact ⟨rfl, rfl⟩
theorem o_bl {i : Bool} : RepO K H (.bl i) (.bl i) [] := by unfold RepO; exact ⟨rfl, rfl⟩
theorem o_str {i : Str} : RepO K H (.str i) (.str i) [] := by unfold RepO; exact ⟨rfl, rfl⟩
theorem o_non : RepO K H .non .non [] := by unfold RepO; exact ⟨rfl, rfl⟩
end

/-! ### operators on scalars -/
/-- two operands: what the rule of the operator asks and gives, by values -/
theorem ev_op2 {op : Operator} {r : R2} (ho : OpR X (binaryOp op) r) (h : EV X a ss ts fun s1 r1 => EV X b s1 (r1 :: ts) fun s2 r2 => ∃ d1 d2 d, r1.is d1 ∧ r2.is d2 ∧
      (∀ H x y, RepR X.K H d1 x → RepR X.K H d2 y → ∃ z, (∀ H, RepO X.K H d z []) ∧ ∀ Q : VK, Q z H → r x y H Q) ∧ Φ s2 (.own d)) : EV X (.BinOp a op b pos) ss ts Φ := fun m B σ tv H Q hm hh k => by
  refine toE (pe_op ho pe_w pe_w) ?_
  refine h m B σ tv H _ hm hh fun s1 r1 x H1 h1 hh1 => ?_
  refine h1 m B σ (x :: tv) H1 _ (hm.up) hh1 fun s2 r2 y H2 ⟨d1, d2, d, e1, e2, ru, q⟩ hh2 => ?_
  obtain ⟨z, rz, go⟩ := ru H2 x y (hh2.top2 e1) (hh2.top e2)
  exact go Q (k s2 _ z H2 q (((hh2.pop (hm.up)).pop hm).pushF (rz H2)))
theorem ev_cmp2 {op : CmpOp} {r : R2} (ho : OpR X (compareOp op) r) (h1 : behindInMarks op b = false) (h : EV X a ss ts fun s1 r1 => EV X b s1 (r1 :: ts) fun s2 r2 => ∃ d1 d2 d, r1.is d1 ∧ r2.is d2 ∧
      (∀ H x y, RepR X.K H d1 x → RepR X.K H d2 y → ∃ z, (∀ H, RepO X.K H d z []) ∧ ∀ Q : VK, Q z H → r x y H Q) ∧ Φ s2 (.own d)) : EV X (.Compare a [op] [b] pos) ss ts Φ := fun m B σ tv H Q hm hh k => by
  refine toE (pe_cmpR ho pe_w pe_w h1) ?_
  refine h m B σ tv H _ hm hh fun s1 r1 x H1 h1 hh1 => ?_
  refine h1 m B σ (x :: tv) H1 _ (hm.up) hh1 fun s2 r2 y H2 ⟨d1, d2, d, e1, e2, ru, q⟩ hh2 => ?_
  obtain ⟨z, rz, go⟩ := ru H2 x y (hh2.top2 e1) (hh2.top e2)
  exact go Q (k s2 _ z H2 q (((hh2.pop (hm.up)).pop hm).pushF (rz H2)))
theorem tv_cmp2 {op : CmpOp} {r : R2} {Θ : List Slot → Bool → Prop} (ho : OpR X (compareOp op) r) (h1 : behindInMarks op b = false) (h : EV X a ss ts fun s1 r1 => EV X b s1 (r1 :: ts) fun s2 r2 => ∃ d1 d2 t, r1.is d1 ∧ r2.is d2 ∧
      (∀ H x y, RepR X.K H d1 x → RepR X.K H d2 y → ∀ Q : VK, Q (.bl t) H → r x y H Q) ∧ Θ s2 t) : TV X (.Compare a [op] [b] pos) ss ts Θ := fun m B σ tv H Q hm hh k => by
  refine toT (pt_cmpR ho pe_w pe_w h1) ?_
  refine h m B σ tv H _ hm hh fun s1 r1 x H1 h1 hh1 => ?_
  refine h1 m B σ (x :: tv) H1 _ (hm.up) hh1 fun s2 r2 y H2 ⟨d1, d2, t, e1, e2, go, q⟩ hh2 => ?_
  exact go H2 x y (hh2.top2 e1) (hh2.top e2) _ ⟨t, rfl, k s2 t H2 q ((hh2.pop (hm.up)).pop hm)⟩
theorem ev_un {op : UnaryOp} {r : V → Hp → VK → Prop} (ho : UnR X (unaryOp op) r) (h : EV X a ss ts fun s1 r1 => ∃ d1 d, r1.is d1 ∧
      (∀ H x, RepR X.K H d1 x → ∃ z, (∀ H, RepO X.K H d z []) ∧ ∀ Q : VK, Q z H → r x H Q) ∧ Φ s1 (.own d)) : EV X (.UnaryOp op a pos) ss ts Φ := fun m B σ tv H Q hm hh k => by
  refine toE (pe_un ho pe_w) ?_
  refine h m B σ tv H _ hm hh fun s1 r1 x H1 ⟨d1, d, e1, ru, q⟩ hh1 => ?_
  obtain ⟨z, rz, go⟩ := ru H1 x (hh1.top e1)
  exact go Q (k s1 _ z H1 q ((hh1.pop hm).pushF (rz H1)))

/-! ### tests -/
variable {Θ : List Slot → Bool → Prop} {rest : List Expr}
/-- a value that is a bool -/
theorem tv_val (h : EV X e ss ts fun s r => ∃ t, r.is (.bl t) ∧ Θ s t) (he : ∀ whole, isTrue e X.env whole = (do let v ← whole; standAt e.pos; holding [v] (truthy v)) := by intro _; rfl) : TV X e ss ts Θ := fun m B σ tv H Q hm hh k => by
  refine toT (pt_val pe_w he) ?_
  refine h m B σ tv H _ hm hh fun s r x H1 ⟨t, e1, q⟩ hh1 => ?_
  have z := hh1.top e1
  rw [rep_bl] at z
  exact ⟨t, z, k s t H1 q (hh1.pop hm)⟩
theorem tv_not (h : TV X a ss ts fun s t => Θ s (!t)) : TV X (.UnaryOp .Not a pos) ss ts Θ := fun m B σ tv H Q hm hh k => by
  refine toT (pt_not pt_w) ?_
  exact h m B σ tv H _ hm hh fun s t H1 q hh1 => k s _ H1 q hh1
theorem tv_and1 (h : TV X a ss ts Θ) : TV X (.BoolOp .And [a] pos) ss ts Θ := fun m B σ tv H Q hm hh k => toT (pw_and1 pt_w).pt (h m B σ tv H _ hm hh k)
theorem tv_or1 (h : TV X a ss ts Θ) : TV X (.BoolOp .Or [a] pos) ss ts Θ := fun m B σ tv H Q hm hh k => toT (pw_or1 pt_w).pt (h m B σ tv H _ hm hh k)
/-- a BoolOp test, whatever its whole is -/
def WV (X : Cx) (e : Expr) (ss ts : List Slot) (Φ : List Slot → Bool → Prop) : Prop :=
  ∀ m B σ tv H Q, Low m ts.length → Held X.K m B H σ ss tv ts → (∀ ss' b H', Φ ss' b → Held X.K m B H' σ ss' tv ts → Q b H') → ∃ t, PW X e t ∧ t σ H Q
def wW (X : Cx) (e : Expr) : TT := fun σ H Q => ∀ (whole : Sem Value) pins s, Inv X pins σ H s → wpAny (model X.prog X.w) X.A (isTrue e X.env whole) (TP X pins σ Q) X.xe s
theorem pw_w : PW X e (wW X e) := ⟨fun wh pins s _ _ _ I h => h wh pins s I⟩
theorem toW {t : TT} {σ : L2.St} {H : Hp} {Q : Bool → Hp → Prop} (p : PW X e t) (q : t σ H Q) : wW X e σ H Q := fun wh pins s I => p.run wh pins s σ H Q I q
theorem WV.w (h : WV X e ss ts Θ) {m : Nat → Prop} {B H : Hp} {σ : List (Option V)} {tv : List V} {Q : Bool → Hp → Prop} (hm : Low m ts.length) (hh : Held X.K m B H σ ss tv ts) (k : ∀ ss' b H', Θ ss' b → Held X.K m B H' σ ss' tv ts → Q b H') : wW X e σ H Q := by
  obtain ⟨t, p, q⟩ := h m B σ tv H Q hm hh k
  exact toW p q
theorem tv_w (h : WV X e ss ts Θ) : TV X e ss ts Θ := fun m B σ tv H Q hm hh k => toT pw_w.pt (h.w hm hh k)
theorem wv_and1 (h : TV X a ss ts Θ) : WV X (.BoolOp .And [a] pos) ss ts Θ := fun m B σ tv H Q hm hh k => ⟨_, pw_and1 pt_w, h m B σ tv H _ hm hh k⟩
theorem wv_or1 (h : TV X a ss ts Θ) : WV X (.BoolOp .Or [a] pos) ss ts Θ := fun m B σ tv H Q hm hh k => ⟨_, pw_or1 pt_w, h m B σ tv H _ hm hh k⟩
theorem wv_and (h : TV X a ss ts fun s t => (t = true → WV X (.BoolOp .And (b :: rest) pos) s ts Θ) ∧ (t = false → Θ s false)) : WV X (.BoolOp .And (a :: b :: rest) pos) ss ts Θ := fun m B σ tv H Q hm hh k => by
  refine ⟨_, pw_and pt_w pw_w, ?_⟩
  refine h m B σ tv H _ hm hh fun s t H1 ⟨q1, q2⟩ hh1 => ?_
  cases t with
  | true => exact iteT ((q1 rfl).w hm hh1 k)
  | false => exact iteF (k s false H1 (q2 rfl) hh1)
theorem wv_or (h : TV X a ss ts fun s t => (t = true → Θ s true) ∧ (t = false → WV X (.BoolOp .Or (b :: rest) pos) s ts Θ)) : WV X (.BoolOp .Or (a :: b :: rest) pos) ss ts Θ := fun m B σ tv H Q hm hh k => by
  refine ⟨_, pw_or pt_w pw_w, ?_⟩
  refine h m B σ tv H _ hm hh fun s t H1 ⟨q1, q2⟩ hh1 => ?_
  cases t with
  | true => exact iteT (k s true H1 (q1 rfl) hh1)
  | false => exact iteF ((q2 rfl).w hm hh1 k)
/-- and, or as values (bools) -/
theorem ev_one {op} (h : EV X a ss ts Φ) : EV X (.BoolOp op [a] pos) ss ts Φ := fun m B σ tv H Q hm hh k => toE (pe_one pe_w) (h m B σ tv H Q hm hh k)
theorem ev_and (h : EV X a ss ts fun s r => ∃ t, r.is (.bl t) ∧ (t = true → EV X (.BoolOp .And (b :: rest) pos) s ts Φ) ∧ (t = false → Φ s (.own (.bl false)))) : EV X (.BoolOp .And (a :: b :: rest) pos) ss ts Φ := fun m B σ tv H Q hm hh k => by
  refine toE (pe_and pe_w pe_w) ?_
  refine h m B σ tv H _ hm hh fun s r x H1 ⟨t, e1, q1, q2⟩ hh1 => ?_
  have z := hh1.top e1
  rw [rep_bl] at z
  refine ⟨t, z, ?_⟩
  cases t with
  | true => exact iteT ((q1 rfl) m B σ tv H1 Q hm (hh1.pop hm) k)
  | false => exact iteF (k s _ _ H1 (q2 rfl) ((hh1.pop hm).pushF o_bl))
theorem ev_or (h : EV X a ss ts fun s r => ∃ t, r.is (.bl t) ∧ (t = true → Φ s (.own (.bl true))) ∧ (t = false → EV X (.BoolOp .Or (b :: rest) pos) s ts Φ)) : EV X (.BoolOp .Or (a :: b :: rest) pos) ss ts Φ := fun m B σ tv H Q hm hh k => by
  refine toE (pe_or pe_w pe_w) ?_
  refine h m B σ tv H _ hm hh fun s r x H1 ⟨t, e1, q1, q2⟩ hh1 => ?_
  have z := hh1.top e1
  rw [rep_bl] at z
  refine ⟨t, z, ?_⟩
  cases t with
  | true => exact iteT (k s _ _ H1 (q1 rfl) ((hh1.pop hm).pushF o_bl))
  | false => exact iteF ((q2 rfl) m B σ tv H1 Q hm (hh1.pop hm) k)
theorem ev_not (h : EV X a ss ts fun s r => ∃ t, r.is (.bl t) ∧ Φ s (.own (.bl (!t)))) : EV X (.UnaryOp .Not a pos) ss ts Φ := fun m B σ tv H Q hm hh k => by
  refine toE (pe_not pe_w) ?_
  refine h m B σ tv H _ hm hh fun s r x H1 ⟨t, e1, q⟩ hh1 => ?_
  have z := hh1.top e1
  rw [rep_bl] at z
  exact ⟨t, z, k s _ _ H1 q ((hh1.pop hm).pushF o_bl)⟩
theorem ev_if (h : TV X c ss ts fun s t => (t = true → EV X a s ts Φ) ∧ (t = false → EV X b s ts Φ)) : EV X (.IfExp c a b pos) ss ts Φ := fun m B σ tv H Q hm hh k => by
  refine toE (pe_ifExp pt_w pe_w pe_w) ?_
  refine h m B σ tv H _ hm hh fun s t H1 ⟨q1, q2⟩ hh1 => ?_
  cases t with
  | true => exact iteT ((q1 rfl) m B σ tv H1 Q hm hh1 k)
  | false => exact iteF ((q2 rfl) m B σ tv H1 Q hm hh1 k)

/-! ### arguments -/
variable {Ω : List Slot → List Slot → Prop} {es : List Expr}
theorem av_nil (q : Ω ss []) : AV X [] ss ts Ω := fun m B σ tv H Q hm hh k => toA pa_nil (k ss [] [] H q rfl rfl hh)
theorem av_cons (h : EV X e ss ts fun s r => AV X es s (r :: ts) fun s' rs => Ω s' (r :: rs)) (hs : starEach (e :: es) X.env = (false, eval e X.env) :: starEach es X.env := by rfl) : AV X (e :: es) ss ts Ω := fun m B σ tv H Q hm hh k => by
  refine toA (pa_cons pe_w pa_w hs) ?_
  refine h m B σ tv H _ hm hh fun s r x H1 h1 hh1 => ?_
  refine h1 m B σ (x :: tv) H1 _ (hm.up) hh1 fun s' rs vs H2 q l1 l2 hh2 => ?_
  refine k s' (r :: rs) (x :: vs) H2 q (by simp [l1]) (by simp [l2]) ?_
  rw [List.reverse_cons, List.reverse_cons, List.append_assoc, List.append_assoc]
  exact hh2
end
end DL
/-! The data layer, part 4: blocks, loops, calls of the program's own defs, a def's promise. -/
namespace DL
open PySem PySem.Spec PyProof.Rows L2

section
variable {K : PySem.W.Frag} {m m' : Nat → Prop} {B H H' : Hp} {fp fp' : Own → List Addr} {σ : List (Option V)} {ss ts rs : List Slot} {tv rv : List V} {v w : V} {s r : Slot} {d d' : D} {F : List Addr}
theorem Held.vok (h : Held K m B H σ ss tv ts) : VOk m ts := let ⟨_, h⟩ := h; h.vok
theorem Held.less {n : Nat} (h : Held K m' B H σ ss tv ts) (e1 : ∀ k, m' k → k < n → m k) (e2 : Low m ts.length) (e3 : VOk m ts) : Held K m B H σ (ss.map (killT n)) tv ts := let ⟨fp, h⟩ := h; ⟨fp, h.less e1 e2 e3⟩
theorem Held.more (h : Held K m B H σ ss tv ts) (e : ∀ k, m k → m' k) (e2 : Low m' ts.length) : Held K m' B H σ ss tv ts := let ⟨fp, h⟩ := h; ⟨fp, h.more e e2⟩
theorem Low.app {m : Nat → Prop} {ts : List Slot} (h : Low m ts.length) (rs : List Slot) : Low m (rs ++ ts).length := fun k q => by
  have := h k q
  rw [List.length_append]
  omega
theorem HeldF.popN : ∀ {rs : List Slot} {rv : List V}, rv.length = rs.length → HeldF K m B H fp σ ss (rv ++ tv) (rs ++ ts) → Low m ts.length → HeldF K m B H fp σ ss tv ts
  | [], [], _, h, _ => h
  | s :: rs, v :: rv, e, h, hm => HeldF.popN (rs := rs) (rv := rv) (by simpa using e) (h.pop (hm.app _)) hm
  | [], _ :: _, e, _, _ => nomatch e
  | _ :: _, [], e, _, _ => nomatch e
theorem Held.popN (e : rv.length = rs.length) (h : Held K m B H σ ss (rv ++ tv) (rs ++ ts)) (hm : Low m ts.length) : Held K m B H σ ss tv ts := let ⟨fp, h⟩ := h; ⟨fp, h.popN e hm⟩
/-- what is owned by nothing that is told is let go -/
theorem HeldF.clear (h : HeldF K m B H fp σ ss tv ts) {k : Nat} (hk : ts.length ≤ k) : HeldF K m B H (fupd fp (.t k) []) σ ss tv ts := by
  have hm : ∀ o, ownOk m o → o ≠ .t k := fun o z e => by
    subst e
    exact absurd (h.mle _ z) (Nat.not_lt_of_le hk)
  refine ⟨h.base, h.slen, h.tlen, h.mle, fun i s e => ?_, fun j s e => ?_, fun o o' a => ?_, fun o => ?_, fun o a => ?_, fun o a => ?_⟩
  · exact (h.var i s e).congr fupd_vt fun o' z => fupd_ne (hm o' z)
  · have hj : j < ts.length := by
      have z := (List.getElem?_eq_some_iff.mp e).1
      simpa using z
    exact (h.tmp j s e).congr (fupd_tt (by omega)) fun o' z => fupd_ne (hm o' z)
  · show a ∈ (if o = .t k then [] else fp o) → a ∈ (if o' = .t k then [] else fp o') → o = o'
    by_cases h1 : o = .t k
    · rw [if_pos h1]; exact fun z => nomatch z
    · by_cases h2 : o' = .t k
      · rw [if_pos h2]; exact fun _ z => nomatch z
      · rw [if_neg h1, if_neg h2]; exact h.disj o o' a
  · show (if o = .t k then [] else fp o).Nodup
    split
    · exact List.nodup_nil
    · exact h.nod o
  · show a ∈ (if o = .t k then [] else fp o) → _
    split
    · exact fun z => nomatch z
    · exact h.out o a
  · show a ∈ (if o = .t k then [] else fp o) → _
    split
    · exact fun z => nomatch z
    · exact h.dom o a
/-- the owned value at the top, taken off: its lists are nobody's -/
theorem HeldF.take (h : HeldF K m B H fp σ ss (v :: tv) (.own d :: ts)) (hm : Low m ts.length) :
    ∃ fp' F, HeldF K m B H fp' σ ss tv ts ∧ (∀ o a, a ∈ fp' o → a ∈ fp o) ∧ RepO K H d v F ∧ F.Nodup ∧ (∀ a ∈ F, ∀ o, a ∉ fp' o) ∧ (∀ a ∈ F, B a = none) ∧ ∀ a ∈ F, a ∈ fp (.t ts.length) := by
  obtain ⟨w, e1, e2⟩ := h.top
  cases e1
  refine ⟨_, _, (h.pop hm).clear (Nat.le_refl _), fun o a q => ?_, e2, h.nod _, fun a ha o q => ?_, fun a ha => h.out _ a ha, fun a ha => ha⟩
  · revert q
    show a ∈ (if o = .t ts.length then [] else fp o) → _
    split
    · exact fun z => nomatch z
    · exact fun z => z
  · revert q
    show a ∈ (if o = .t ts.length then [] else fp o) → _
    split
    · exact fun z => nomatch z
    · rename_i n
      exact fun z => n (h.disj _ _ a z ha)
/-- several owned values at the top (the last one at the top), taken off -/
theorem HeldF.gather : ∀ (ds : List D) {vs : List V} {fp : Own → List Addr}, vs.length = ds.length → HeldF K m B H fp σ ss (vs ++ tv) (ds.map Slot.own ++ ts) → Low m ts.length →
    ∃ fp' F, HeldF K m B H fp' σ ss tv ts ∧ (∀ o a, a ∈ fp' o → a ∈ fp o) ∧ RepOs K H ds.reverse vs.reverse F ∧ F.Nodup ∧ (∀ a ∈ F, ∀ o, a ∉ fp' o) ∧ (∀ a ∈ F, B a = none) ∧ ∀ a ∈ F, ∃ o, a ∈ fp o
  | [], [], fp, _, h, _ => ⟨fp, [], h, fun _ _ z => z, by unfold RepOs; exact ⟨rfl, rfl⟩, List.nodup_nil, (fun _ z => nomatch z), (fun _ z => nomatch z), (fun _ z => nomatch z)⟩
  | d :: ds, v :: vs, fp, e, h, hm => by
    obtain ⟨fp1, F1, h1, s1, r1, n1, o1, b1, t1⟩ := HeldF.take (ts := ds.map Slot.own ++ ts) (tv := vs ++ tv) h (hm.app _)
    obtain ⟨fp2, F2, h2, s2, r2, n2, o2, b2, t2⟩ := HeldF.gather ds (vs := vs) (by simpa using e) h1 hm
    refine ⟨fp2, F2 ++ F1, h2, fun o a z => s1 o a (s2 o a z), ?_, ?_, fun a ha o z => ?_, fun a ha => ?_, fun a ha => ?_⟩
    · rw [List.reverse_cons, List.reverse_cons]
      exact r2.append (RepOs.one r1)
    · refine List.nodup_append.mpr ⟨n2, n1, fun a ha b hb z => ?_⟩
      subst z
      obtain ⟨o, q⟩ := t2 a ha
      exact o1 a hb o q
    · rcases List.mem_append.mp ha with ha | ha
      · exact o2 a ha o z
      · exact o1 a ha o (s2 o a z)
    · rcases List.mem_append.mp ha with ha | ha
      · exact b2 a ha
      · exact b1 a ha
    · rcases List.mem_append.mp ha with ha | ha
      · obtain ⟨o, q⟩ := t2 a ha
        exact ⟨o, s1 o a q⟩
      · exact ⟨_, t1 a ha⟩
  | [], _ :: _, _, e, _, _ => nomatch e
  | _ :: _, [], _, e, _, _ => nomatch e
/-- the owned value at the top, what lies under it taken away -/
theorem HeldF.under (h : HeldF K m B H fp σ ss (v :: (rv ++ tv)) (.own d :: (rs ++ ts))) (e : rv.length = rs.length) (hm : Low m ts.length) : Held K m B H σ ss (v :: tv) (.own d :: ts) := by
  obtain ⟨fp1, F1, h1, s1, r1, n1, o1, b1, t1⟩ := HeldF.take h (hm.app _)
  exact ⟨_, (h1.popN e hm).push r1 n1 (fun a ha o _ => o1 a ha o) b1⟩
theorem Held.under (h : Held K m B H σ ss (v :: (rv ++ tv)) (.own d :: (rs ++ ts))) (e : rv.length = rs.length) (hm : Low m ts.length) : Held K m B H σ ss (v :: tv) (.own d :: ts) := let ⟨_, h⟩ := h; h.under e hm
/-- flat data of any slot, as owned -/
theorem Held.flat (h : Held K m B H σ ss (v :: tv) (r :: ts)) (hm : Low m ts.length) (e : r.is d) (hf : d.flat = true) : Held K m B H σ ss (v :: tv) (.own d :: ts) := (h.pop hm).pushF ((h.top e).flatO hf)
end

theorem EndsOk.to {K : PySem.W.Frag} {B : Hp} {fx : List Nat} {σ σ' : List (Option V)} {tv : List V} {ts : List Slot} {E : DE} {D : Ends} (h : EndsOk K B fx σ tv ts E D) (e : ∀ i, i ∈ fx → σ'[i]? = σ[i]?) : EndsOk K B fx σ' tv ts E D :=
  ⟨fun ss s H q hh z => h.nx ss s H q hh fun i hi => (z i hi).trans (e i hi), fun ss r s v H q hh z => h.rt ss r s v H q hh fun i hi => (z i hi).trans (e i hi),
    fun ss s H q hh z => h.bk ss s H q hh fun i hi => (z i hi).trans (e i hi), fun ss s H q hh z => h.ct ss s H q hh fun i hi => (z i hi).trans (e i hi)⟩

section
variable {X : Cx} {fx : List Nat} {ss ts : List Slot} {Φ : List Slot → Slot → Prop} {e a b c tg it : Expr} {pos : Pos} {E : DE} {st : Stmt} {rest sts sts2 : List Stmt}

theorem isSome_lt {α : Type} {l : List α} {i : Nat} (h : (l[i]?).isSome = true) : i < l.length := by
  by_cases hi : i < l.length
  · exact hi
  · rw [List.getElem?_eq_none (Nat.le_of_not_lt hi)] at h
    cases h
theorem noView_tail {o : Own} {r : Slot} {l : List Slot} (h : noView o (r :: l) = true) : noView o l = true := by
  cases r <;> first | exact h | (unfold noView at h; rw [Bool.and_eq_true] at h; exact h.2)
theorem noView_head {o : Own} {r : Slot} {l : List Slot} (h : noView o (r :: l) = true) (d : D) : r ≠ .view o d := noView_mem h _ List.mem_cons_self d
/-! ### blocks -/
theorem sv_nil (q : E.nx ss) : SV X fx [] ss ts E := fun B σ tv H D h k => toSs pss_nil (k.nx ss σ H q h fun _ _ => rfl)
theorem sv_cons (h : S1 X fx st ss ts (E.thn fun s => SV X fx rest s ts E)) : SV X fx (st :: rest) ss ts E := fun B σ tv H D hh k => by
  refine toSs (pss_cons ps_w pss_w) ?_
  refine h B σ tv H _ hh ⟨fun s σ' H' q h' z => ?_, k.rt, k.bk, k.ct⟩
  exact q B σ' tv H' D h' (k.to z)
theorem sv_one (h : S1 X fx st ss ts E) : SV X fx [st] ss ts E := fun B σ tv H D hh k => toSs (pss_one ps_w) (h B σ tv H D hh k)
theorem s1_pass (q : E.nx ss) : S1 X fx (.Pass pos) ss ts E := fun B σ tv H D h k => toS ps_pass (k.nx ss σ H q h fun _ _ => rfl)
theorem s1_break (q : E.bk ss) : S1 X fx (.Break pos) ss ts E := fun B σ tv H D h k => toS ps_break (k.bk ss σ H q h fun _ _ => rfl)
theorem s1_continue (q : E.ct ss) : S1 X fx (.Continue pos) ss ts E := fun B σ tv H D h k => toS ps_continue (k.ct ss σ H q h fun _ _ => rfl)
theorem s1_expr (h : EV X e ss ts fun s _ => E.nx s) (hs : swapsWith e none pos.line X.env = pure false := by rfl) : S1 X fx (.Expr e pos) ss ts E := fun B σ tv H D hh k => by
  refine toS (ps_expr pe_w hs) ?_
  exact h (fun k => k < ts.length) B σ tv H _ Low.self hh fun s r v H' q h' => k.nx s σ H' q (h'.pop Low.self) fun _ _ => rfl
theorem s1_ret (h : EV X e ss ts fun s r => E.rt s r) : S1 X fx (.Return (some e) pos) ss ts E := fun B σ tv H D hh k => by
  refine toS (ps_ret pe_w) ?_
  exact h (fun k => k < ts.length) B σ tv H _ Low.self hh fun s r v H' q h' => k.rt s r σ v H' q h' fun _ _ => rfl
theorem s1_retN (q : E.rt ss (.own .non)) : S1 X fx (.Return none pos) ss ts E := fun B σ tv H D hh k =>
  toS ps_retN (k.rt ss _ σ .non H q (hh.pushF o_non) fun _ _ => rfl)
theorem s1_if (h : TV X c ss ts fun s t => (t = true → SV X fx sts s ts E) ∧ (t = false → SV X fx sts2 s ts E)) : S1 X fx (.If c sts sts2 pos) ss ts E := fun B σ tv H D hh k => by
  refine toS (ps_if pt_w pss_w pss_w) ?_
  refine h (fun k => k < ts.length) B σ tv H _ Low.self hh fun s t H1 ⟨q1, q2⟩ hh1 => ?_
  cases t with
  | true => exact iteT (q1 rfl B σ tv H1 D hh1 k)
  | false => exact iteF (q2 rfl B σ tv H1 D hh1 k)
/-- name = e -/
theorem s1_set {i : Nat} {x : Str} {pos' : Pos} (hN : X.N.Nodup) (hi : X.N[i]? = some x) (hx : Loc X.env.scope x) (hfx : i ∉ fx) (hil : (ss[i]?).isSome = true)
    (h : EV X e ss ts fun s r => s.length = ss.length ∧ noView (.v i) (r :: ts) = true ∧ E.nx ((s.map (kill (.v i))).set i r)) (hs : swapsWith e (some (.Name x pos')) pos.line X.env = pure false := by rfl)
    (hf : X.fn x = true ∨ X.env.scope.names.lookup x = some .local := by first | exact .inl rfl | exact .inr rfl | assumption) : S1 X fx (.Assign [.Name x pos'] e pos) ss ts E := fun B σ tv H D hh k => by
  refine toS (ps_set hN hi hx pe_w hs hf) ?_
  refine h (fun k => k < ts.length) B σ tv H _ Low.self hh fun s r v H' ⟨l, n1, q⟩ h' => ?_
  refine k.nx _ _ H' q (h'.assign Low.self (by rw [l]; exact isSome_lt hil) (noView_tail n1) (noView_head n1)) fun j hj => ?_
  exact List.getElem?_set_ne (fun z => by subst z; exact hfx hj)

/-! ### targets -/
theorem gv_name {i : Nat} {x : Str} {s : Slot} {as : List Nat} {N : List Slot → Prop} (hN : X.N.Nodup) (hi : X.N[i]? = some x) (hx : Loc X.env.scope x) (ha : i ∈ as) (hil : (ss[i]?).isSome = true) (n1 : noView (.v i) (s :: ts) = true)
    (q : N ((ss.map (kill (.v i))).set i s)) (hf : X.fn x = true ∨ X.env.scope.names.lookup x = some .local := by first | exact .inl rfl | exact .inr rfl | assumption) : GV X (.Name x pos) as (.one s) ss ts N := fun m B σ tv H v Q hm hh k =>
  toG (pg_name hN hi hx hf) (k _ _ H q (Held.assign hh hm (isSome_lt hil) (noView_tail n1) (noView_head n1)) ⟨fun j hj => List.getElem?_set_ne (fun z => by subst z; exact hj ha), by simp⟩)
/-- a, b = a pair that a loop gives -/
theorem gv_two {i j : Nat} {x y : Str} {s1 s2 : Slot} {as : List Nat} {k : Nat} {px py : Pos} {N : List Slot → Prop} (hc : X.calm = true) (hN : X.N.Nodup) (hi : X.N[i]? = some x) (hj : X.N[j]? = some y) (hij : i ≠ j) (hx : Loc X.env.scope x) (hy : Loc X.env.scope y)
    (ha : i ∈ as) (hb : j ∈ as) (hil : (ss[i]?).isSome = true) (hjl : (ss[j]?).isSome = true) (n1 : noView (.v i) (s1 :: ts) = true) (n2 : noView (.v j) (s2 :: s1 :: ts) = true)
    (q : N ((((ss.map (kill (.v j))).set j s2).map (kill (.v i))).set i s1))
    (hf : X.fn x = true ∨ X.env.scope.names.lookup x = some .local := by first | exact .inl rfl | exact .inr rfl | assumption) (hg : X.fn y = true ∨ X.env.scope.names.lookup y = some .local := by first | exact .inl rfl | exact .inr rfl | assumption)
    (hn : (assignEach [.Name x px, .Name y py] X.env).length = 2 := by rfl) (hst : (assignEach [.Name x px, .Name y py] X.env).findIdx? (·.1) = none := by rfl)
    (hs1 : (assignEach [.Name x px, .Name y py] X.env).map (·.2) = assign (.Name x px) X.env :: (assignEach [.Name y py] X.env).map (·.2) := by rfl) (hs2 : (assignEach [.Name y py] X.env).map (·.2) = assign (.Name y py) X.env :: (assignEach [] X.env).map (·.2) := by rfl) :
    GV X (.Tuple [.Name x px, .Name y py] k pos) as (.two s1 s2) ss ts N := fun m B σ tv H v Q hm hh kk => by
  obtain ⟨T, x1, x2, rfl, sq, h⟩ := hh
  refine toG (pg_tup hc (pgs_cons (pg_name hN hi hx hf) (pgs_cons (pg_name hN hj hy hg) pgs_nil hs2) hs1) hn hst) ?_
  refine ⟨T, [x1, x2], rfl, sq, rfl, x1, [x2], rfl, x2, [], rfl, rfl, ?_⟩
  have a1 := (List.mem_cons_self : s2 ∈ s2 :: s1 :: ts)
  have h1 := Held.assign h hm.up (isSome_lt hjl) (by
    cases s2 <;> first | exact n2 | (have z := n2; unfold noView at z; rw [Bool.and_eq_true] at z; exact z.2)) (fun d z => noView_mem n2 _ a1 d z)
  have h2 := Held.assign h1 hm (by simpa using isSome_lt hil) (by
    cases s1 <;> first | exact n1 | (have z := n1; unfold noView at z; rw [Bool.and_eq_true] at z; exact z.2)) (fun d z => noView_mem n1 _ List.mem_cons_self d z)
  have e : (σ.set i (some x1)).set j (some x2) = (σ.set j (some x2)).set i (some x1) := List.set_comm _ _ hij
  show Q ((σ.set i (some x1)).set j (some x2)) H
  rw [e]
  refine kk _ _ H q h2 ⟨fun l hl => ?_, by simp⟩
  rw [List.getElem?_set_ne (fun z => by subst z; exact hl ha), List.getElem?_set_ne (fun z => by subst z; exact hl hb)]

/-! ### loops -/
theorem s1_for {as : List Nat} (hp : PassesOwn (model X.prog X.w) X.A X.env X.xe) (hc : X.calm = true) (hfx : ∀ i, i ∈ fx → i ∉ as)
    (h : IV X tg it ss ts fun s1 rs els => ∃ I : Nat → List Slot → Prop, I 0 s1 ∧
      (∀ i el s, els[i]? = some el → I i s → GV X tg as el s (rs ++ ts) fun s' => SV X fx sts s' (rs ++ ts)
        (E.turn (I (i + 1)) ts.length)) ∧
      ∀ s, I els.length s → E.nx (s.map (killT ts.length)))
    (hs : ∀ x, foldedSetIterable it X.env x = pure x := by intro _; rfl) : S1 X fx (.For tg it sts [] pos) ss ts E := fun B σ tv H D hh k => by
  refine toS (ps_for hp hc pi_w pg_w pss_w hs) ?_
  refine h (fun k => k < ts.length) B σ tv H _ Low.self hh fun s1 rs rv els J H1 ⟨I, i0, step, fin⟩ rl h1 io => ?_
  have low := h1.vok
  have len : (rs ++ ts).length = ts.length + rs.length := by rw [List.length_append]; omega
  refine ⟨fun i n σ' H' => n = els.length - i ∧ i ≤ els.length ∧ (∀ i, i ∈ fx → σ'[i]? = σ[i]?) ∧ ∃ s, I i s ∧ Held X.K (fun k => k < (rs ++ ts).length) B H' σ' s (rv ++ tv) (rs ++ ts),
    ⟨_, rfl, Nat.zero_le _, fun _ _ => rfl, s1, i0, h1.more (fun k q => by omega) Low.self⟩, ?_⟩
  rintro i n σ' H' ⟨rfl, hi, hz, s, hI, h'⟩
  obtain ⟨go, stop⟩ := io _ _ _ _ _ [] [] _ _ h' rfl rfl (fun k _ q => by omega)
  have leave : ∀ {s σ2 H2}, Held X.K (fun k => k < (rs ++ ts).length) B H2 σ2 s (rv ++ tv) (rs ++ ts) → Held X.K (fun k => k < ts.length) B H2 σ2 (s.map (killT ts.length)) tv ts := fun h => (h.less (fun _ _ q => q) (Low.self.app rs) low).popN rl Low.self
  by_cases hlt : i < els.length
  · obtain ⟨el, he⟩ : ∃ el, els[i]? = some el := ⟨els[i], by simp [hlt]⟩
    obtain ⟨g1, g2⟩ := go i el he
    refine .inr ⟨g1, fun σ2 H2 => (∀ i, i ∈ fx → σ2[i]? = σ[i]?) ∧ ∃ s, I (i + 1) s ∧ Held X.K (fun k => k < (rs ++ ts).length) B H2 σ2 s (rv ++ tv) (rs ++ ts), fun σ2 H2 ⟨z2, q2⟩ => ⟨els.length - (i + 1), by omega, rfl, hlt, z2, q2⟩, fun x H2 y => ?_⟩
    refine step i el s he hI _ B σ' (rv ++ tv) H2 x _ Low.self (g2 x H2 y) fun s3 σ3 H3 q3 h3 z3 => ?_
    have z4 : ∀ i, i ∈ fx → σ3[i]? = σ[i]? := fun j hj => (z3.1 j (hfx j hj)).trans (hz j hj)
    refine q3 B σ3 (rv ++ tv) H3 _ h3 ⟨fun s5 σ5 H5 q5 h5 z5 => ⟨fun j hj => (z5 j hj).trans (z4 j hj), s5, q5, h5⟩, fun s5 r5 σ5 v5 H5 ⟨d5, e5, q5⟩ h5 z5 => ?_, fun s5 σ5 H5 q5 h5 z5 => k.nx _ σ5 H5 q5 (leave h5) fun j hj => (z5 j hj).trans (z4 j hj),
      fun s5 σ5 H5 q5 h5 z5 => ⟨fun j hj => (z5 j hj).trans (z4 j hj), s5, q5, h5⟩⟩
    subst e5
    refine k.rt _ _ σ5 v5 H5 q5 (Held.under (rv := rv) (rs := rs) (h5.less (m := fun k => k < ts.length) (n := ts.length) (fun _ _ q => q) (Low.self.app (.own d5 :: rs)) (fun s hs => by
      rcases List.mem_cons.mp hs with rfl | hs
      · exact fun _ _ z => nomatch z
      · exact low s hs)) rl Low.self) fun j hj => (z5 j hj).trans (z4 j hj)
  · have e : i = els.length := by omega
    subst e
    exact .inl ⟨stop _ (Nat.le_refl _), k.nx _ σ' H' (fin s hI) (leave h') hz⟩
theorem s1_while (I : Nat → List Slot → Prop) (hp : PassesOwn (model X.prog X.w) X.A X.env X.xe) (i0 : ∃ n, I n ss)
    (h : ∀ n s, I n s → TV X c s ts fun s' t => (t = true → SV X fx sts s' ts (E.wh fun s2 => ∃ n', n' < n ∧ I n' s2)) ∧ (t = false → E.nx s')) :
    S1 X fx (.While c sts [] pos) ss ts E := fun B σ tv H D hh k => by
  refine toS (ps_while hp pt_w pss_w) ?_
  obtain ⟨n0, i0⟩ := i0
  refine ⟨fun n σ' H' => (∀ i, i ∈ fx → σ'[i]? = σ[i]?) ∧ ∃ s, I n s ∧ Held X.K (fun k => k < ts.length) B H' σ' s tv ts, ⟨n0, fun _ _ => rfl, ss, i0, hh⟩, ?_⟩
  rintro n σ' H' ⟨z, s, hI, h'⟩
  refine h n s hI (fun k => k < ts.length) B σ' tv H' _ Low.self h' fun s1 t H1 ⟨q1, q2⟩ h1 => ?_
  cases t with
  | true =>
    refine iteT ⟨fun σ2 H2 => ∃ n', n' < n ∧ (∀ i, i ∈ fx → σ2[i]? = σ[i]?) ∧ ∃ s, I n' s ∧ Held X.K (fun k => k < ts.length) B H2 σ2 s tv ts, fun σ2 H2 q => q, ?_⟩
    refine q1 rfl B σ' tv H1 _ h1 ⟨fun s5 σ5 H5 ⟨n', l, q5⟩ h5 z5 => ⟨n', l, fun j hj => (z5 j hj).trans (z j hj), s5, q5, h5⟩, fun s5 r5 σ5 v5 H5 q5 h5 z5 => k.rt _ _ σ5 v5 H5 q5 h5 fun j hj => (z5 j hj).trans (z j hj),
      fun s5 σ5 H5 q5 h5 z5 => k.nx _ σ5 H5 q5 h5 fun j hj => (z5 j hj).trans (z j hj), fun s5 σ5 H5 ⟨n', l, q5⟩ h5 z5 => ⟨n', l, fun j hj => (z5 j hj).trans (z j hj), s5, q5, h5⟩⟩
  | false => exact iteF (k.nx _ σ' H1 (q2 rfl) h1 z)

/-! ### displays -/
theorem ev_tup {es : List Expr} {k : Nat} (h : AV X es ss ts fun s rs => ∃ ds, rs = ds.map Slot.own ∧ ds.length ≤ 1000 ∧ Φ s (.own (.tup ds))) (ht : ∀ t, PA X es t → PE X (.Tuple es k pos) (tTup t) := by intro t h; exact pe_tup h) : EV X (.Tuple es k pos) ss ts Φ := fun m B σ tv H Q hm hh kk => by
  refine toE (ht _ pa_w) ?_
  refine h m B σ tv H _ hm hh fun s rs vs H1 ⟨ds, e, hl, q⟩ l1 l2 hh1 => ?_
  subst e
  obtain ⟨fp, hf⟩ := hh1
  rw [← List.map_reverse] at hf
  obtain ⟨fp', F, h2, _, r2, n2, o2, b2, _⟩ := HeldF.gather ds.reverse (vs := vs.reverse) (by simpa using l1) hf hm
  rw [List.reverse_reverse, List.reverse_reverse] at r2
  have lv : vs.length = ds.length := by simpa using l1
  refine ⟨Nat.le_trans (by omega : vs.length ≤ 1000) (by decide), fun p hp => ?_⟩
  have ex := Ex.new (o := .tup vs) hp
  refine kk s _ (.ref p) _ q ⟨_, (h2.ex ex).push (F := F) ?_ n2 (fun a ha o _ => o2 a ha o) b2⟩
  unfold RepO
  exact ⟨p, vs, rfl, .inl (.inl upd_same), r2.frame ex.tk fun a ha => by
    obtain ⟨u, e, _⟩ := r2.dom a ha
    rw [e, ex a u e]⟩
theorem ev_lst {es : List Expr} {k : Pos} (h : AV X es ss ts fun s rs => ∃ ds, rs = ds.map Slot.own ∧ ds.length ≤ 1000 ∧ Φ s (.own (.lst ds))) : EV X (.List es k) ss ts Φ := fun m B σ tv H Q hm hh kk => by
  refine toE (pe_lst pa_w) ?_
  refine h m B σ tv H _ hm hh fun s rs vs H1 ⟨ds, e, hl, q⟩ l1 l2 hh1 => ?_
  subst e
  obtain ⟨fp, hf⟩ := hh1
  rw [← List.map_reverse] at hf
  obtain ⟨fp', F, h2, _, r2, n2, o2, b2, _⟩ := HeldF.gather ds.reverse (vs := vs.reverse) (by simpa using l1) hf hm
  rw [List.reverse_reverse, List.reverse_reverse] at r2
  have lv : vs.length = ds.length := by simpa using l1
  refine ⟨Nat.le_trans (by omega : vs.length ≤ 1000) (by decide), fun p hp => ?_⟩
  have ex := Ex.new (o := .lst vs) hp
  have np : ∀ o, p ∉ fp' o := fun o z => by
    obtain ⟨u, e, _⟩ := h2.dom o p z
    rw [hp] at e
    cases e
  have npF : p ∉ F := fun z => by
    obtain ⟨u, e, _⟩ := r2.dom p z
    rw [hp] at e
    cases e
  have pB : B p = none := by
    cases z : B p with
    | none => rfl
    | some u =>
      have q := h2.base p u z
      rw [hp] at q
      cases q
  refine kk s _ (.ref p) _ q ⟨_, (h2.ex ex).push (F := p :: F) ?_ (List.nodup_cons.mpr ⟨npF, n2⟩) (fun a ha o _ => ?_) fun a ha => ?_⟩
  · unfold RepO
    exact ⟨p, vs, F, rfl, upd_same, rfl, r2.frame ex.tk fun a ha => by
      obtain ⟨u, e, _⟩ := r2.dom a ha
      rw [e, ex a u e]⟩
  · rcases List.mem_cons.mp ha with rfl | ha
    · exact np o
    · exact o2 a ha o
  · rcases List.mem_cons.mp ha with rfl | ha
    · exact pB
    · exact b2 a ha

/-! ### a def's promise -/
/-- what a call with such slots comes to -/
abbrev FSp := List Slot → (List Slot → D → Prop) → Prop
def spG (K : PySem.W.Frag) (F : FSp) : Sp := fun vs H Q _ => ∃ B ss, Held K (fun k => k < 0) B H (vs.map some) ss [] [] ∧ F ss fun ss' d => ∀ r H', Held K (fun k => k < 0) B H' (vs.map some) ss' [r] [.own d] → Q r H'
/-- no argument is changed -/
def fP (F : List D → (D → Prop) → Prop) : FSp := fun ss q => ∃ (ds : List D) (k : D → Prop), ss = ds.map Slot.par ∧ F ds k ∧ ∀ d, k d → q ss d
abbrev spP (K : PySem.W.Frag) (F : List D → (D → Prop) → Prop) : Sp := spG K (fP F)

theorem Held.args {K : PySem.W.Frag} {m : Nat → Prop} {B H : Hp} {σ : List (Option V)} {tv : List V} : ∀ {rs : List Slot} {vs : List V} {ds : List D}, vs.length = rs.length → Held K m B H σ ss (vs ++ tv) (rs ++ ts) → List.length rs = ds.length → (∀ i (h : i < rs.length) (h' : i < ds.length), rs[i].is ds[i]) → Low m ts.length → RepRs K H ds vs
  | [], [], [], _, _, _, _, _ => by unfold RepRs; rfl
  | r :: rs, v :: vs, d :: ds, e, h, l, q, hm => by
    unfold RepRs
    refine ⟨v, vs, rfl, Held.top h (q 0 (by simp) (by simp)), Held.args (rs := rs) (vs := vs) (ds := ds) (by simpa using e) (Held.pop h (hm.app _)) (by simpa using l) (fun i h1 h2 => ?_) hm⟩
    have := q (i + 1) (by simpa using h1) (by simpa using h2)
    simpa using this
  | [], _ :: _, _, e, _, _, _, _ => nomatch e
  | _ :: _, [], _, e, _, _, _, _ => nomatch e
  | _ :: _, _ :: _, [], _, _, l, _, _ => nomatch l
  | [], [], _ :: _, _, _, l, _, _ => nomatch l

/-- slots of data from outside -/
theorem held_par {K : PySem.W.Frag} {H : Hp} {ds : List D} {vs : List V} (h : RepRs K H ds vs) : Held K (fun k => k < 0) H H (vs.map some) (ds.map Slot.par) [] [] := by
  refine ⟨fun _ => [], Ex.refl H, by simp [h.length], rfl, Low.self, fun i s e => ?_, (fun k s e => by simp at e), (fun _ _ _ z => nomatch z), (fun _ => List.nodup_nil), (fun _ _ z => nomatch z), (fun _ _ z => nomatch z)⟩
  rw [List.getElem?_map] at e
  cases e1 : ds[i]? with
  | none => rw [e1] at e; cases e
  | some d =>
    rw [e1] at e
    have e2 : Slot.par d = s := Option.some.inj e
    subst e2
    obtain ⟨w, e3, e4⟩ := h.get e1
    refine ⟨w, ?_, e4⟩
    rw [List.getElem?_map, e3]
    rfl
end

section
variable {P : Program} {w : World} {K : PySem.W.Frag} {mg : Str → Option Value} {base : Heap}
/-- a def's promise by its body (nothing is raised) -/
theorem fun_ok {CX : CXT} {x qual : Str} {st : Stmt} {dvs : List V} {f : Addr} {fd : FuncData} {N ps : List Str} {k : Nat} {F : FSp} (fx : List Nat) (Fn : FunD K x qual (defArgs st) (defBody st) (defScope st) dvs [] f fd) (S : FnScope N ps (defScope st))
    (len : ∀ ss q, F ss q → ss.length = ps.length)
    (hbody : ∀ (cdv : Value) (A : Around) (outer : List Env) (s : Shared) (H : Hp) (E : XK), Room k (A.deeper (envOfC qual (defScope st) s.heap.objs.size f cdv)) → ∀ ss q, F ss q →
      SV (cxOf CX P w K mg base N qual (defScope st) f cdv A outer s H E).nox fx (defBody st) (ss ++ List.replicate (N.length - ps.length) .no) []
        { nx := fun s => (∀ i, i < ps.length → i ∉ fx → ∃ d, ss[i]? = some (.par d)) ∧ q (ss.zipIdx.map fun p => if p.2 ∈ fx then (s[p.2]?).getD .no else p.1) .non,
          rt := fun s r => (∀ i, i < ps.length → i ∉ fx → ∃ d, ss[i]? = some (.par d)) ∧ ∃ d, r = .own d ∧ q (ss.zipIdx.map fun p => if p.2 ∈ fx then (s[p.2]?).getD .no else p.1) d }) :
    FnOk P w K mg base CX (k + 1) f fd ps (spG K F) := by
  refine Fn.ok S (fun vs H Q E h => ?_) fun cdv A outer s H vs Q E hr h => ?_
  · obtain ⟨B, ss, ⟨fp, hh⟩, hF⟩ := h
    have l1 := len ss _ hF
    have l2 := hh.slen
    rw [List.length_map] at l2
    omega
  · obtain ⟨B, ss, hh, hF⟩ := h
    have l1 := len ss _ hF
    obtain ⟨fp, hf⟩ := hh
    have l2 := hf.slen
    rw [List.length_map] at l2
    refine ⟨_, PSs.nox pss_w, ?_⟩
    have st0 : start N vs = vs.map some ++ List.replicate (N.length - vs.length) none := rfl
    have lv : vs.length = ps.length := by omega
    -- the entry
    have h0 : Held K (fun k => k < 0) B H (start N vs) (ss ++ List.replicate (N.length - ps.length) .no) [] [] := by
      refine ⟨fp, hf.base, ?_, rfl, Low.self, fun i s e => ?_, fun k s e => by simp at e, hf.disj, hf.nod, hf.out, hf.dom⟩
      · rw [st0, List.length_append, List.length_append, List.length_map, List.length_replicate, List.length_replicate, lv, l1]
      · by_cases hi : i < ss.length
        · rw [List.getElem?_append_left hi] at e
          rw [st0, List.getElem?_append_left (by simpa [l2] using hi)]
          exact hf.var i s e
        · rw [List.getElem?_append_right (Nat.le_of_not_lt hi)] at e
          have e2 : s = .no := by
            rw [List.getElem?_replicate] at e
            split at e
            · exact (Option.some.inj e).symm
            · cases e
          subst e2
          trivial
    -- what is handed back
    have back : ∀ (s2 : List Slot) (σ2 : List (Option V)) (H2 : Hp) (v : V) (d : D), (∀ i, i < ps.length → i ∉ fx → ∃ d, ss[i]? = some (.par d)) → Held K (fun k => k < 0) B H2 σ2 s2 [v] [.own d] → (∀ i, i ∈ fx → σ2[i]? = (start N vs)[i]?) →
        Held K (fun k => k < 0) B H2 (vs.map some) (ss.zipIdx.map fun p => if p.2 ∈ fx then (s2[p.2]?).getD .no else p.1) [v] [.own d] := by
      rintro s2 σ2 H2 v d hpar ⟨fp2, h2⟩ hz
      refine ⟨fp2, h2.base, by simp [l2], h2.tlen, fun _ z => absurd z (Nat.not_lt_zero _), fun i s e => ?_, h2.tmp, h2.disj, h2.nod, h2.out, h2.dom⟩
      rw [List.getElem?_map] at e
      cases e1 : (ss.zipIdx)[i]? with
      | none => rw [e1] at e; cases e
      | some p =>
        rw [e1] at e
        have e2 : (if p.2 ∈ fx then (s2[p.2]?).getD .no else p.1) = s := Option.some.inj e
        rw [List.getElem?_zipIdx] at e1
        cases e3 : ss[i]? with
        | none => rw [e3] at e1; cases e1
        | some s0 =>
          rw [e3] at e1
          have e4 : (s0, 0 + i) = p := Option.some.inj e1
          subst e4
          have hi : i < ss.length := (List.getElem?_eq_some_iff.mp e3).1
          simp only [Nat.zero_add] at e2
          by_cases hfx : i ∈ fx
          · rw [if_pos hfx] at e2
            have e5 : (vs.map some)[i]? = σ2[i]? := by
              rw [hz i hfx, st0, List.getElem?_append_left (by simpa [l2] using hi)]
            rw [e5]
            cases e6 : s2[i]? with
            | none =>
              rw [e6] at e2
              have e7 : Slot.no = s := e2
              subst e7
              trivial
            | some s3 =>
              rw [e6] at e2
              have e7 : s3 = s := e2
              subst e7
              exact h2.var i _ e6
          · rw [if_neg hfx] at e2
            subst e2
            obtain ⟨d0, q0⟩ := hpar i (by omega) hfx
            rw [e3] at q0
            cases q0
            obtain ⟨u, z1, z2⟩ := hf.var i _ e3
            exact ⟨u, z1, z2⟩
    refine hbody cdv A outer s H E hr ss _ hF B (start N vs) [] H _ h0 ⟨fun s2 σ2 H2 ⟨hp, q⟩ h2 z => ?_, fun s2 r σ2 v H2 ⟨hp, d, e, q⟩ h2 z => ?_, fun _ _ _ z => z.elim, fun _ _ _ z => z.elim⟩
    · exact q .non H2 (back s2 σ2 H2 .non .non hp (h2.pushF o_non) z)
    · subst e
      exact q v H2 (back s2 σ2 H2 v d hp h2 z)
/-- .. where no argument is changed -/
theorem fun_okP {CX : CXT} {x qual : Str} {st : Stmt} {dvs : List V} {f : Addr} {fd : FuncData} {N ps : List Str} {k : Nat} {F : List D → (D → Prop) → Prop} (Fn : FunD K x qual (defArgs st) (defBody st) (defScope st) dvs [] f fd) (S : FnScope N ps (defScope st))
    (len : ∀ ds q, F ds q → ds.length = ps.length)
    (hbody : ∀ (cdv : Value) (A : Around) (outer : List Env) (s : Shared) (H : Hp) (E : XK), Room k (A.deeper (envOfC qual (defScope st) s.heap.objs.size f cdv)) → ∀ ds (q : D → Prop), F ds q →
      SV (cxOf CX P w K mg base N qual (defScope st) f cdv A outer s H E).nox [] (defBody st) (ds.map Slot.par ++ List.replicate (N.length - ps.length) .no) []
        { nx := fun _ => q .non, rt := fun _ r => ∃ d, r = .own d ∧ q d }) :
    FnOk P w K mg base CX (k + 1) f fd ps (spP K F) := by
  refine fun_ok [] Fn S (fun ss q ⟨ds, k, e, h, _⟩ => ?_) fun cdv A outer s H E hr ss q ⟨ds, k, e, h, kq⟩ => ?_
  · rw [e, List.length_map]
    exact len ds _ h
  · subst e
    have l := len ds _ h
    have hpar : ∀ i, i < ps.length → i ∉ ([] : List Nat) → ∃ d, (ds.map Slot.par)[i]? = some (.par d) := fun i hi _ => ⟨ds[i]'(by omega), by simp [show i < ds.length by omega]⟩
    have same : ∀ s : List Slot, ((ds.map Slot.par).zipIdx.map fun p => if p.2 ∈ ([] : List Nat) then (s[p.2]?).getD .no else p.1) = ds.map Slot.par := fun s => by
      refine List.ext_getElem? fun i => ?_
      rw [List.getElem?_map, List.getElem?_zipIdx]
      cases (ds.map Slot.par)[i]? with
      | none => rfl
      | some z => rfl
    intro B σ tv H0 D hh kk
    refine hbody cdv A outer s H E hr ds _ h B σ tv H0 D hh ⟨fun s2 σ2 H2 q2 h2 z => kk.nx s2 σ2 H2 ⟨hpar, by rw [same]; exact kq _ q2⟩ h2 z, fun s2 r σ2 v H2 ⟨d, e, q2⟩ h2 z => kk.rt s2 r σ2 v H2 ⟨hpar, d, e, by rw [same]; exact kq _ q2⟩ h2 z, fun _ _ _ z => z.elim, fun _ _ _ z => z.elim⟩
end
end DL
/-! The data layer, part 5: what is walked, comprehensions, calls, subscripts. -/
namespace DL
open PySem PySem.Spec PyProof.Rows L2

theorem rev_at {α : Type} {es ts : List α} {r : α} : (es ++ (r :: ts)).reverse[ts.length]? = some r := by
  rw [List.reverse_append, List.reverse_cons, List.append_assoc, List.getElem?_append_right (by simp)]
  simp
/-- an item of a list that stands on the way -/
def sub (n : Nat) (r : Slot) (d : D) : Slot := match r with
  | .own _ => .view (.t n) d
  | .par _ => .par d
  | .view o _ => .view o d
  | .no => .no
theorem sub_own {n : Nat} {r : Slot} {d d' : D} : sub n r d ≠ .own d' := by
  cases r <;> exact fun z => nomatch z
section
variable {K : PySem.W.Frag} {m : Nat → Prop} {B H H' : Hp} {σ : List (Option V)} {ss ts rs es : List Slot} {tv rv ev vs : List V} {v w : V} {s r : Slot} {d d' : D} {ds : List D} {a : Addr}
theorem HeldF.at {fp : Own → List Addr} (h : HeldF K m B H fp σ ss (ev ++ (v :: tv)) (es ++ (r :: ts))) (e : ev.length = es.length) : SlotOk K B H fp m (.t ts.length) (some v) r := by
  have hl : tv.length = ts.length := by
    have z := h.tlen
    simp only [List.length_append, List.length_cons] at z
    omega
  have z := h.tmp ts.length r rev_at
  rw [← hl, rev_at, hl] at z
  exact z
/-- the items of data that stand in a slot -/
theorem SlotOk.item {fp : Own → List Addr} {n : Nat} (h : SlotOk K B H fp m (.t n) (some v) r) (b : Ex B H) (hr : r.is (.lst ds)) (hn : m n) :
    ∃ a vs, v = .ref a ∧ H a = some (.lst vs) ∧ vs.length = ds.length ∧ ∀ (i : Nat) (d : D), ds[i]? = some d → ∃ w, vs[i]? = some w ∧ RepR K H d w ∧ SlotOk K B H fp m (.t n) (some w) (sub n r d) := by
  rcases hr with rfl | rfl | ⟨o', rfl⟩
  · obtain ⟨w, e1, e2⟩ := h
    cases e1
    have q := e2.toR (P := fun a => a ∈ fp (.t n) ∨ (B a).isSome = true) fun a ha => .inl ha
    unfold RepR at q
    obtain ⟨a, vs, rfl, e3, e4⟩ := q
    refine ⟨a, vs, rfl, restr_ex _ _ e3, e4.length, fun i d hd => ?_⟩
    obtain ⟨w, h1, h2⟩ := e4.get hd
    exact ⟨w, h1, h2.mono restr_ex, hn, w, rfl, h2⟩
  · obtain ⟨w, e1, e2⟩ := h
    cases e1
    unfold RepR at e2
    obtain ⟨a, vs, rfl, e3, e4⟩ := e2
    refine ⟨a, vs, rfl, b _ _ e3, e4.length, fun i d hd => ?_⟩
    obtain ⟨w, h1, h2⟩ := e4.get hd
    exact ⟨w, h1, h2.mono b, w, rfl, h2⟩
  · obtain ⟨z, w, e1, e2⟩ := h
    cases e1
    unfold RepR at e2
    obtain ⟨a, vs, rfl, e3, e4⟩ := e2
    refine ⟨a, vs, rfl, restr_ex _ _ e3, e4.length, fun i d hd => ?_⟩
    obtain ⟨w, h1, h2⟩ := e4.get hd
    exact ⟨w, h1, h2.mono restr_ex, z, w, rfl, h2⟩
theorem getElem?_lt {α : Type} {l : List α} {i : Nat} {x : α} (h : l[i]? = some x) : i < l.length := (List.getElem?_eq_some_iff.mp h).1
end

section
variable {X : Cx} {fx : List Nat} {ss ts : List Slot} {Φ : List Slot → Slot → Prop} {e a b c tg it : Expr} {es : List Expr} {pos p2 : Pos} {E : DE} {Ψ : List Slot → List Slot → List El → Prop}

/-! ### what is walked -/
theorem iv_range1 {a : Expr} {p : Pos} (hg : Gl X "range") (hm : X.mg "range" = none) (h : EV X a ss ts fun s r => ∃ j : Int, r.is (.int j) ∧ -(2 ^ 62) ≤ j ∧ j < 2 ^ 62 ∧ Ψ s [] ((List.range j.toNat).map fun k => .one (.own (.int ((k : Nat) : Int)))))
    (hs : starEach [a] X.env = [(false, eval a X.env)] := by rfl) : IV X tg (.Call (.Name "range" p) [a] [] pos) ss ts Ψ := fun m B σ tv H R hm' hh k => by
  refine toI (pi_range1 hg hm (pa_cons pe_w pa_nil hs) hs) ?_
  refine h m B σ tv H _ hm' hh fun s r x H1 ⟨j, e1, l, u, q⟩ h1 => ?_
  have z := h1.top e1
  rw [rep_int] at z
  refine ⟨j, by rw [z], l, u, k s [] [] _ _ H1 q rfl (h1.pop hm') ?_⟩
  intro m' B' H' σ' ss' ev es tv' ts' h' hlen hl hmm
  refine ⟨fun i el he => ?_, fun i hi => ?_⟩
  · rw [List.getElem?_map] at he
    cases e2 : (List.range j.toNat)[i]? with
    | none => rw [e2] at he; cases he
    | some k' =>
      rw [e2] at he
      have e3 : El.one (.own (.int ((k' : Nat) : Int))) = el := Option.some.inj he
      subst e3
      obtain ⟨hi, e4⟩ := List.getElem?_eq_some_iff.mp e2
      simp at e4 hi
      subst e4
      refine ⟨(by show i < j.toNat; omega), fun x H2 y => ?_⟩
      obtain ⟨y1, y2⟩ := y
      subst y1 y2
      have z : (0 : Int) + ((i : Nat) : Int) = ((i : Nat) : Int) := by omega
      show Held _ _ _ _ _ _ _ _
      rw [z]
      exact h'.pushF o_int
  · show j.toNat ≤ i
    simpa using hi
theorem iv_range2 {a b : Expr} {p : Pos} (hg : Gl X "range") (hm : X.mg "range" = none) (h : EV X a ss ts fun s1 r1 => EV X b s1 (r1 :: ts) fun s r => ∃ i j : Int, r1.is (.int i) ∧ r.is (.int j) ∧ (-(2 ^ 62) ≤ i ∧ i < 2 ^ 62 ∧ -(2 ^ 62) ≤ j ∧ j < 2 ^ 62) ∧ Ψ s [] ((List.range (j - i).toNat).map fun k => .one (.own (.int (i + ((k : Nat) : Int))))))
    (hs : starEach [a, b] X.env = [(false, eval a X.env), (false, eval b X.env)] := by rfl) (hs2 : starEach [b] X.env = [(false, eval b X.env)] := by rfl) : IV X tg (.Call (.Name "range" p) [a, b] [] pos) ss ts Ψ := fun m B σ tv H R hm' hh k => by
  refine toI (pi_range2 hg hm (pa_cons pe_w (pa_cons pe_w pa_nil hs2) (by rw [hs, hs2])) hs hs2) ?_
  refine h m B σ tv H _ hm' hh fun s r x H1 h1 hh1 => ?_
  refine h1 m B σ (x :: tv) H1 _ (hm'.up) hh1 fun s2 r2 y H2 ⟨i, j, e1, e2, l, q⟩ hh2 => ?_
  have z1 := hh2.top2 e1
  have z2 := hh2.top e2
  rw [rep_int] at z1 z2
  refine ⟨i, j, by rw [z1, z2], l, k s2 [] [] _ _ H2 q rfl ((hh2.pop (hm'.up)).pop hm') ?_⟩
  intro m' B' H' σ' ss' ev es tv' ts' h' hlen hl hmm
  refine ⟨fun n el he => ?_, fun n hn => ?_⟩
  · rw [List.getElem?_map] at he
    cases e2 : (List.range (j - i).toNat)[n]? with
    | none => rw [e2] at he; cases he
    | some k' =>
      rw [e2] at he
      have e3 : El.one (.own (.int (i + ((k' : Nat) : Int)))) = el := Option.some.inj he
      subst e3
      obtain ⟨hi, e4⟩ := List.getElem?_eq_some_iff.mp e2
      simp at e4 hi
      subst e4
      refine ⟨by show n < (j - i).toNat; omega, fun x H2 y => ?_⟩
      obtain ⟨y1, y2⟩ := y
      subst y1 y2
      exact h'.pushF o_int
  · show (j - i).toNat ≤ n
    simpa using hn
/-- what a walk over the list at the top of the stack yields -/
theorem iter_list {K : PySem.W.Frag} {n : Nat} {r : Slot} {a : Addr} {ds : List D} (hr : r.is (.lst ds)) (els : List El) (he : els.length = ds.length)
    (hel : ∀ (i : Nat) (d : D) (el : El), ds[i]? = some d → els[i]? = some el → (d.flat = true ∧ el = .one (.own d)) ∨ el = .one (sub n r d)) : IterOk K n (Itl K a) [r] [.ref a] els := by
  intro m' B' H' σ' ss' ev es tv' ts' h' hlen hl hmm
  obtain ⟨fp, hf⟩ := h'
  have hm' : m' n := hmm n (Nat.le_refl _) (by simp)
  have z := HeldF.at (v := .ref a) (r := r) (ts := ts') (tv := tv') hf hlen
  rw [hl] at z
  obtain ⟨a', vs, ea, e1, e2, e3⟩ := z.item hf.base hr hm'
  cases ea
  refine ⟨fun i el hi => ?_, fun i hi => ⟨vs, SqL.of e1, by omega⟩⟩
  have il := getElem?_lt hi
  obtain ⟨d, hd⟩ : ∃ d, ds[i]? = some d := ⟨ds[i]'(by omega), by simp [show i < ds.length by omega]⟩
  obtain ⟨w, h1, h2, h3⟩ := e3 i d hd
  refine ⟨⟨vs, w, SqL.of e1, h1⟩, fun x H2 y => ?_⟩
  obtain ⟨y1, y2⟩ := y
  subst y1
  have hx : x = w := by
    have := y2 vs (SqL.of e1)
    rw [h1] at this
    exact (Option.some.inj this).symm
  subst hx
  rcases hel i d el hd hi with ⟨fl, rfl⟩ | rfl
  · exact ⟨_, hf.pushF (h2.flatO fl)⟩
  · exact ⟨_, hf.pushV (fun _ => sub_own) h3⟩
theorem iv_list' {l : Expr} (h : EV X l ss ts fun s r => ∃ ds els, r.is (.lst ds) ∧ els.length = ds.length ∧ (∀ (i : Nat) (d : D) (el : El), ds[i]? = some d → els[i]? = some el → (d.flat = true ∧ el = .one (.own d)) ∨ el = .one (sub ts.length r d)) ∧ Ψ s [r] els) :
    IV X tg l ss ts Ψ := fun m B σ tv H R hm' hh k => by
  refine toI (pi_list pe_w) ?_
  refine h m B σ tv H _ hm' hh fun s r x H1 ⟨ds, els, e1, e2, e3, q⟩ h1 => ?_
  have z := h1.top e1
  unfold RepR at z
  obtain ⟨a, vs, rfl, z2, z3⟩ := z
  exact ⟨a, rfl, ⟨vs, SqL.of z2⟩, k s [r] [.ref a] els _ H1 q rfl h1 (iter_list e1 els e2 e3)⟩
/-- over a list of flat data -/
theorem iv_listF {l : Expr} (h : EV X l ss ts fun s r => ∃ ds, r.is (.lst ds) ∧ (∀ d ∈ ds, d.flat = true) ∧ Ψ s [r] (ds.map fun d => .one (.own d))) : IV X tg l ss ts Ψ :=
  iv_list' (h.imp fun s r ⟨ds, e1, e2, q⟩ => ⟨ds, _, e1, by simp, fun i d el hd he => .inl ⟨e2 d (List.mem_of_getElem? hd), by
    rw [List.getElem?_map, hd] at he
    exact (Option.some.inj he).symm⟩, q⟩)
/-- over a list of lists -/
theorem iv_list {l : Expr} (h : EV X l ss ts fun s r => ∃ ds, r.is (.lst ds) ∧ Ψ s [r] (ds.map fun d => .one (sub ts.length r d))) : IV X tg l ss ts Ψ :=
  iv_list' (h.imp fun s r ⟨ds, e1, q⟩ => ⟨ds, _, e1, by simp, fun i d el hd he => .inr (by
    rw [List.getElem?_map, hd] at he
    exact (Option.some.inj he).symm), q⟩)
/-- enumerate(list) -/
theorem iv_enum' {l : Expr} {p tpos : Pos} {elts : List Expr} {kk : Nat} (hg : Gl X "enumerate") (hm : X.mg "enumerate" = none)
    (h : EV X l ss ts fun s r => ∃ ds els, r.is (.lst ds) ∧ els.length = ds.length ∧ (∀ (i : Nat) (d : D) (el : El), ds[i]? = some d → els[i]? = some el → (d.flat = true ∧ el = .two (.own (.int ((i : Nat) : Int))) (.own d)) ∨ el = .two (.own (.int ((i : Nat) : Int))) (sub ts.length r d)) ∧ Ψ s [r] els)
    (hs : starEach [l] X.env = [(false, eval l X.env)] := by rfl) : IV X (.Tuple elts kk tpos) (.Call (.Name "enumerate" p) [l] [] pos) ss ts Ψ := fun m B σ tv H R hm' hh k => by
  refine toI (pi_enum hg hm (pa_cons pe_w pa_nil hs) hs) ?_
  refine h m B σ tv H _ hm' hh fun s r x H1 ⟨ds, els, e1, e2, hel, q⟩ h1 => ?_
  have z := h1.top e1
  unfold RepR at z
  obtain ⟨a, vs, rfl, z2, z3⟩ := z
  refine ⟨a, vs, rfl, SqL.of z2, k s [r] [.ref a] els _ H1 q rfl h1 ?_⟩
  intro m' B' H' σ' ss' ev es tv' ts' h' hlen hl hmm
  obtain ⟨fp, hf⟩ := h'
  have hm' : m' ts.length := hmm _ (Nat.le_refl _) (by simp)
  have z := HeldF.at (v := .ref a) (r := r) (ts := ts') (tv := tv') hf hlen
  rw [hl] at z
  obtain ⟨a', vs, ea, e1', e2', e3⟩ := z.item hf.base e1 hm'
  cases ea
  refine ⟨fun i el hi => ?_, fun i hi => ⟨vs, SqL.of e1', by omega⟩⟩
  have il := getElem?_lt hi
  obtain ⟨d, hd⟩ : ∃ d, ds[i]? = some d := ⟨ds[i]'(by omega), by simp [show i < ds.length by omega]⟩
  obtain ⟨w, h1, h2, h3⟩ := e3 i d hd
  refine ⟨⟨vs, w, SqL.of e1', h1⟩, fun x H2 y => ?_⟩
  obtain ⟨T, x2, ex, hT, eH, y2⟩ := y
  have hx : x2 = w := by
    have := y2 vs (SqL.of e1')
    rw [h1] at this
    exact (Option.some.inj this).symm
  subst hx ex eH
  have exx := Ex.new (o := .tup [.int ((i : Nat) : Int), x2]) hT
  have hf2 := (hf.ex exx).pushF (v := .int ((i : Nat) : Int)) (d := .int ((i : Nat) : Int)) o_int
  rcases hel i d el hd hi with ⟨fl, rfl⟩ | rfl
  · exact ⟨T, _, x2, rfl, .inl (.inl upd_same), _, hf2.pushF ((h2.mono exx).flatO fl)⟩
  · refine ⟨T, _, x2, rfl, .inl (.inl upd_same), _, hf2.pushV (o := .t ts.length) (fun _ => sub_own) ?_⟩
    refine (h3.heap exx.tk (hf.base.trans exx) hf.base ?_ ?_).congrV (fun _ => sub_own) fun o' z _ => fupd_ne fun zz => ?_
    · intro a' ha'
      obtain ⟨u, q, _⟩ := hf.dom _ a' ha'
      rw [exx a' u q, q]
    · intro o' d' _ a' ha'
      obtain ⟨u, q, _⟩ := hf.dom _ a' ha'
      rw [exx a' u q, q]
    · subst zz
      exact absurd (hf.mle _ z) (Nat.lt_irrefl _)
theorem iv_enumF {l : Expr} {p tpos : Pos} {elts : List Expr} {kk : Nat} (hg : Gl X "enumerate") (hm : X.mg "enumerate" = none)
    (h : EV X l ss ts fun s r => ∃ ds, r.is (.lst ds) ∧ (∀ d ∈ ds, d.flat = true) ∧ Ψ s [r] (ds.zipIdx.map fun p => .two (.own (.int ((p.2 : Nat) : Int))) (.own p.1)))
    (hs : starEach [l] X.env = [(false, eval l X.env)] := by rfl) : IV X (.Tuple elts kk tpos) (.Call (.Name "enumerate" p) [l] [] pos) ss ts Ψ :=
  iv_enum' hg hm (h.imp fun s r ⟨ds, e1, e2, q⟩ => ⟨ds, _, e1, by simp, fun i d el hd he => .inl ⟨e2 d (List.mem_of_getElem? hd), by
    rw [List.getElem?_map, List.getElem?_zipIdx, hd] at he
    have z := (Option.some.inj he).symm
    simpa using z⟩, q⟩) hs
theorem iv_enum {l : Expr} {p tpos : Pos} {elts : List Expr} {kk : Nat} (hg : Gl X "enumerate") (hm : X.mg "enumerate" = none)
    (h : EV X l ss ts fun s r => ∃ ds, r.is (.lst ds) ∧ Ψ s [r] (ds.zipIdx.map fun p => .two (.own (.int ((p.2 : Nat) : Int))) (sub ts.length r p.1)))
    (hs : starEach [l] X.env = [(false, eval l X.env)] := by rfl) : IV X (.Tuple elts kk tpos) (.Call (.Name "enumerate" p) [l] [] pos) ss ts Ψ :=
  iv_enum' hg hm (h.imp fun s r ⟨ds, e1, q⟩ => ⟨ds, _, e1, by simp, fun i d el hd he => .inr (by
    rw [List.getElem?_map, List.getElem?_zipIdx, hd] at he
    have z := (Option.some.inj he).symm
    simpa using z), q⟩) hs
/-- over a text's signs -/
theorem iv_str {l : Expr} (h : EV X l ss ts fun s r => ∃ x, r.is (.str x) ∧ Ψ s [] (x.cps.toList.map fun c => .one (.own (.str ⟨#[c]⟩)))) : IV X tg l ss ts Ψ := fun m B σ tv H R hm' hh k => by
  refine toI (pi_str pe_w) ?_
  refine h m B σ tv H _ hm' hh fun s r v H1 ⟨x, e1, q⟩ h1 => ?_
  have z := h1.top e1
  rw [rep_str] at z
  refine ⟨x, z, k s [] [] _ _ H1 q rfl (h1.pop hm') ?_⟩
  intro m' B' H' σ' ss' ev es tv' ts' h' hlen hl hmm
  refine ⟨fun n el he => ?_, fun n hn => ?_⟩
  · rw [List.getElem?_map] at he
    cases e2 : (x.cps.toList)[n]? with
    | none => rw [e2] at he; cases he
    | some c =>
      rw [e2] at he
      have e3 : El.one (.own (.str ⟨#[c]⟩)) = el := Option.some.inj he
      subst e3
      have hi := getElem?_lt e2
      refine ⟨by show n < x.cps.size; simpa using hi, fun v' H2 y => ?_⟩
      obtain ⟨y1, c', y2, y3⟩ := y
      have e5 : c' = c := by
        rw [Array.getElem?_toList] at e2
        rw [e2] at y2
        exact (Option.some.inj y2).symm
      subst y1 y3 e5
      exact h'.pushF o_str
  · show x.cps.size ≤ n
    simpa using hn

/-! ### comprehensions -/
/-- the slots vs forgotten -/
def wipeS (vs : List Nat) (ss : List Slot) : List Slot := vs.foldl (fun s i => s.set i .no) ss
theorem wipeS_length : ∀ (vs : List Nat) (ss : List Slot), (wipeS vs ss).length = ss.length
  | [], _ => rfl
  | v :: vs, ss => by
    show (wipeS vs (ss.set v .no)).length = _
    rw [wipeS_length, List.length_set]
theorem wipeS_get : ∀ (vs : List Nat) (ss : List Slot) (i : Nat), (wipeS vs ss)[i]? = if i ∈ vs then (ss[i]?).map (fun _ => .no) else ss[i]?
  | [], ss, i => by rw [if_neg (by simp)]; rfl
  | v :: vs, ss, i => by
    show (wipeS vs (ss.set v .no))[i]? = _
    rw [wipeS_get vs _ i]
    by_cases h1 : i ∈ vs
    · rw [if_pos h1, if_pos (List.mem_cons_of_mem _ h1)]
      by_cases h2 : v = i
      · subst h2
        by_cases h3 : v < ss.length
        · rw [List.getElem?_set_self h3, List.getElem?_eq_getElem h3]; rfl
        · rw [List.getElem?_eq_none (by simpa using h3), List.getElem?_eq_none (by simpa using h3)]
      · rw [List.getElem?_set_ne h2]
    · rw [if_neg h1]
      by_cases h2 : v = i
      · subst h2
        rw [if_pos List.mem_cons_self]
        by_cases h3 : v < ss.length
        · rw [List.getElem?_set_self h3, List.getElem?_eq_getElem h3]; rfl
        · rw [List.getElem?_eq_none (by simpa using h3), List.getElem?_eq_none (by simpa using h3)]; rfl
      · rw [List.getElem?_set_ne h2, if_neg (by simp only [List.mem_cons, not_or]; exact ⟨fun z => h2 z.symm, h1⟩)]
theorem wipe_get : ∀ (vs : List Nat) (σ : L2.St) (i : Nat), (wipe σ vs)[i]? = if i ∈ vs then (σ[i]?).map (fun _ => none) else σ[i]?
  | [], σ, i => by rw [if_neg (by simp)]; rfl
  | v :: vs, σ, i => by
    unfold wipe
    by_cases h2 : v = i
    · subst h2
      rw [if_pos List.mem_cons_self]
      by_cases h3 : v < σ.length
      · rw [List.getElem?_set_self (by rw [wipe_length]; exact h3), List.getElem?_eq_getElem h3]; rfl
      · rw [List.getElem?_eq_none (by rw [List.length_set, wipe_length]; simpa using h3), List.getElem?_eq_none (by simpa using h3)]; rfl
    · rw [List.getElem?_set_ne h2, wipe_get vs σ i]
      by_cases h1 : i ∈ vs
      · rw [if_pos h1, if_pos (List.mem_cons_of_mem _ h1)]
      · rw [if_neg h1, if_neg (by simp only [List.mem_cons, not_or]; exact ⟨fun z => h2 z.symm, h1⟩)]
section
variable {K : PySem.W.Frag} {m : Nat → Prop} {B H H' : Hp} {σ σ' : List (Option V)} {tv : List V} {v : V} {d : D} {vs : List Nat}
/-- the slots vs tell nothing: their values may be anything -/
theorem Held.other (h : Held K m B H σ ss tv ts) (l : σ'.length = σ.length) (e : ∀ i, i ∉ vs → σ'[i]? = σ[i]?) : Held K m B H σ' (wipeS vs ss) tv ts := by
  obtain ⟨fp, h⟩ := h
  refine ⟨fp, h.base, by rw [l, wipeS_length]; exact h.slen, h.tlen, h.mle, fun i s q => ?_, h.tmp, h.disj, h.nod, h.out, h.dom⟩
  rw [wipeS_get] at q
  by_cases hi : i ∈ vs
  · rw [if_pos hi] at q
    cases e1 : ss[i]? with
    | none => rw [e1] at q; cases q
    | some s0 =>
      rw [e1] at q
      have z : Slot.no = s := Option.some.inj q
      subst z
      trivial
  · rw [if_neg hi] at q
    rw [e i hi]
    exact h.var i s q
/-- the value at the top is appended to the list under it -/
theorem HeldF.snoc {fp : Own → List Addr} {a : Addr} {acc : List D} (h : HeldF K m B H fp σ ss (v :: .ref a :: tv) (.own d :: .own (.lst acc) :: ts)) (hm : Low m ts.length) :
    ∃ vs, H a = some (.lst vs) ∧ vs.length = acc.length ∧ Held K m B (upd H a (.lst (vs ++ [v]))) σ ss (.ref a :: tv) (.own (.lst (acc ++ [d])) :: ts) := by
  obtain ⟨fp1, F1, h1, s1, r1, n1, o1, b1, _⟩ := h.take (hm.up)
  obtain ⟨fp2, F2, h2, s2, r2, n2, o2, b2, t2⟩ := h1.take hm
  unfold RepO at r2
  obtain ⟨a', vs, G, e0, e1, e2, e3⟩ := r2
  cases e0
  subst e2
  have n3 := List.nodup_cons.mp n2
  have tk : TK H (upd H a (.lst (vs ++ [v]))) := TK.upd e1 fun z => z
  have na : ∀ F : List Addr, a ∉ F → ∀ b ∈ F, upd H a (.lst (vs ++ [v])) b = H b := fun F z b hb => upd_ne fun q => z (q ▸ hb)
  have aF1 : a ∉ F1 := fun z => o1 a z _ (t2 a List.mem_cons_self)
  refine ⟨vs, e1, e3.reps.length, _, (h2.heap tk (fun b u q => ?_) fun o b hb => ?_).push (F := a :: (G ++ F1)) ?_ ?_ (fun b hb o _ => ?_) fun b hb => ?_⟩
  · have nb : b ≠ a := fun z => by
      subst z
      rw [b2 b List.mem_cons_self] at q
      cases q
    rw [upd_ne nb]
    exact h2.base b u q
  · exact upd_ne fun z => o2 a List.mem_cons_self o (by rw [← z]; exact hb)
  · unfold RepO
    exact ⟨a, vs ++ [v], G ++ F1, rfl, upd_same, rfl, (e3.frame tk (na G n3.1)).append (RepOs.one (r1.frame tk (na F1 aF1)))⟩
  · refine List.nodup_cons.mpr ⟨fun z => ?_, List.nodup_append.mpr ⟨n3.2, n1, fun b hb c hc z => ?_⟩⟩
    · rcases List.mem_append.mp z with z | z
      · exact n3.1 z
      · exact aF1 z
    · subst z
      exact o1 b hc _ (t2 b (List.mem_cons_of_mem _ hb))
  · rcases List.mem_cons.mp hb with rfl | hb
    · exact o2 b List.mem_cons_self o
    · rcases List.mem_append.mp hb with hb | hb
      · exact o2 b (List.mem_cons_of_mem _ hb) o
      · exact fun z => o1 b hb o (s2 o b z)
  · rcases List.mem_cons.mp hb with rfl | hb
    · exact b2 b List.mem_cons_self
    · rcases List.mem_append.mp hb with hb | hb
      · exact b2 b (List.mem_cons_of_mem _ hb)
      · exact b1 b hb
end
/-- a comprehension's tests -/
def TsV (X : Cx) (ifs : List Expr) (ss ts : List Slot) (Θ : List Slot → Bool → Prop) : Prop :=
  ∀ m B σ tv H Q, Low m ts.length → Held X.K m B H σ ss tv ts → (∀ ss' b H', Θ ss' b → Held X.K m B H' σ ss' tv ts → Q b H') → wTs X ifs σ H Q
theorem tsv_nil {Θ : List Slot → Bool → Prop} (q : Θ ss true) : TsV X [] ss ts Θ := fun m B σ tv H Q hm hh k => ⟨_, pts_nil, k ss true H q hh⟩
theorem tsv_one {Θ : List Slot → Bool → Prop} (h : TV X c ss ts Θ) : TsV X [c] ss ts Θ := fun m B σ tv H Q hm hh k => ⟨_, pts_one pt_w, h m B σ tv H Q hm hh k⟩
theorem pts_w {ifs : List Expr} : PTs X ifs (wTs X ifs) := ⟨fun pins s σ H Q I ⟨t, p, q⟩ => p.run pins s σ H Q I q⟩
/-- what the turn of a comprehension asks -/
def LcTurn (X : Cx) (elt tg : Expr) (ifs : List Expr) (scope : Scope) (vs : List Nat) (el : El) (s : List Slot) (ts : List Slot) (acc : List D) (N : List Slot → List D → Prop) : Prop :=
  ∀ s0 H0 C cl fp, GV (X.blk s0 H0 scope (compEnvC scope cl C X.env) fp) tg vs el s (.own (.lst acc) :: ts) fun s1 =>
    ∀ s0 H0 C cl fp, TsV (X.blk s0 H0 scope (compEnvC scope cl C X.env) fp) ifs s1 (.own (.lst acc) :: ts) fun s2 t =>
      (t = true → ∀ s0 H0 C cl fp, EV (X.blk s0 H0 scope (compEnvC scope cl C X.env) fp) elt s2 (.own (.lst acc) :: ts) fun s3 r => ∃ d, r = .own d ∧ acc.length < 1000000 ∧ N (wipeS vs s3) (acc ++ [d])) ∧
      (t = false → N (wipeS vs s2) acc)
theorem lc_all {elt iter : Expr} {ifs : List Expr} {scope : Scope} {vs : List Nat}
    (h : IV X tg iter ss ts fun s1 rs els => ∃ I : Nat → List Slot → List D → Prop, I 0 (wipeS vs s1) [] ∧
      (∀ i el s acc, els[i]? = some el → I i s acc → LcTurn X elt tg ifs scope vs el s (rs ++ ts) acc (I (i + 1))) ∧ ∀ s acc, I els.length s acc → Φ (s.map (killT ts.length)) (.own (.lst acc)))
    {m : Nat → Prop} {B : Hp} {σ : L2.St} {tv : List V} {H : Hp} {Q : VK} (hm : Low m ts.length) (hh : Held X.K m B H σ ss tv ts) (k : ∀ ss' r v H', Φ ss' r → Held X.K m B H' σ ss' (v :: tv) (r :: ts) → Q v H') :
    tLc (wI X tg iter) (fun v σ H Q => ∀ s0 H0 C cl fp, wG (X.blk s0 H0 scope (compEnvC scope cl C X.env) fp) tg v σ H Q) (fun σ H Q => ∀ s0 H0 C cl fp, wTs (X.blk s0 H0 scope (compEnvC scope cl C X.env) fp) ifs σ H Q)
      (fun σ H Q => ∀ s0 H0 C cl fp, wE (X.blk s0 H0 scope (compEnvC scope cl C X.env) fp) elt σ H Q) vs σ H Q := by
  refine h m B σ tv H _ hm hh fun s1 rs rv els J H1 ⟨I, i0, step, fin⟩ rl h1 io D hD => ?_
  have vk := h1.vok
  have wl : (wipe σ vs).length = σ.length := wipe_length σ vs
  have we : ∀ i, i ∉ vs → (wipe σ vs)[i]? = σ[i]? := fun i hi => by rw [wipe_get, if_neg hi]
  have low' : Low (fun k => m k ∨ (ts.length ≤ k ∧ k < ts.length + rs.length)) (rs ++ ts).length := fun k q => by
    rw [List.length_append]
    rcases q with q | q
    · have := hm k q
      omega
    · omega
  have hw : Held X.K (fun k => m k ∨ (ts.length ≤ k ∧ k < ts.length + rs.length)) B H1 (wipe σ vs) (wipeS vs s1) (rv ++ tv) (rs ++ ts) := (h1.more (fun k q => .inl q) low').other wl we
  have ex := Ex.new (o := .lst []) hD
  have hD0 : Held X.K (fun k => m k ∨ (ts.length ≤ k ∧ k < ts.length + rs.length)) B (upd H1 D (.lst [])) (wipe σ vs) (wipeS vs s1) (.ref D :: (rv ++ tv)) (.own (.lst []) :: (rs ++ ts)) :=
    hw.fresh ex (F := [D]) (by unfold RepO; exact ⟨D, [], [], rfl, upd_same, rfl, by unfold RepOs; exact ⟨rfl, rfl⟩⟩) (by simp) fun a ha => by
      rw [List.mem_singleton.mp ha]
      exact hD
  refine ⟨fun i n H' => n = els.length - i ∧ i ≤ els.length ∧ ∃ s acc, I i s acc ∧ (∀ j, j ∈ vs → s[j]? = some .no ∨ s[j]? = none) ∧
    Held X.K (fun k => m k ∨ (ts.length ≤ k ∧ k < ts.length + rs.length)) B H' (wipe σ vs) s (.ref D :: (rv ++ tv)) (.own (.lst acc) :: (rs ++ ts)), ⟨_, rfl, Nat.zero_le _, _, _, i0, fun j hj => ?_, hD0⟩, ?_⟩
  · rw [wipeS_get, if_pos hj]
    cases s1[j]? with
    | none => exact .inr rfl
    | some _ => exact .inl rfl
  rintro i n H' ⟨rfl, hi, s, acc, hI, hno, h'⟩
  obtain ⟨go, stop⟩ := io _ _ _ _ _ [.ref D] [.own (.lst acc)] _ _ h' rfl rfl fun k q1 q2 => .inr ⟨q1, q2⟩
  by_cases hlt : i < els.length
  · obtain ⟨el, he⟩ : ∃ el, els[i]? = some el := ⟨els[i], by simp [hlt]⟩
    obtain ⟨g1, g2⟩ := go i el he
    refine .inr ⟨g1, fun H2 => ∃ s acc, I (i + 1) s acc ∧ (∀ j, j ∈ vs → s[j]? = some .no ∨ s[j]? = none) ∧
      Held X.K (fun k => m k ∨ (ts.length ≤ k ∧ k < ts.length + rs.length)) B H2 (wipe σ vs) s (.ref D :: (rv ++ tv)) (.own (.lst acc) :: (rs ++ ts)), fun H2 q => ⟨els.length - (i + 1), by omega, rfl, hlt, q⟩, fun x H2 y => ?_⟩
    intro s0 H0 C cl fp
    refine step i el s acc he hI s0 H0 C cl fp _ B (wipe σ vs) (.ref D :: (rv ++ tv)) H2 x _ low'.up (g2 x H2 y) fun s3 σ3 H3 q3 h3 z3 => ?_
    have low2 : Low (fun k => m k ∨ (ts.length ≤ k ∧ k < ts.length + rs.length)) (.own (.lst acc) :: (rs ++ ts)).length := low'.up
    have wo : ∀ i, i ∉ vs → (wipe σ vs)[i]? = σ3[i]? := fun i hi => (z3.1 i hi).symm
    have wb : wipe σ3 vs = wipe σ vs := List.ext_getElem? fun i => by
      rw [wipe_get]
      by_cases hi : i ∈ vs
      · rw [if_pos hi]
        by_cases l : i < σ3.length
        · rw [List.getElem?_eq_getElem l, wipe_get, if_pos hi, List.getElem?_eq_getElem (show i < σ.length by rw [← wl, ← z3.2]; exact l)]
          rfl
        · rw [List.getElem?_eq_none (Nat.le_of_not_lt l), List.getElem?_eq_none (by rw [← z3.2]; exact Nat.le_of_not_lt l)]
          rfl
      · rw [if_neg hi]
        exact z3.1 i hi
    have nos : ∀ s5 : List Slot, ∀ j, j ∈ vs → (wipeS vs s5)[j]? = some .no ∨ (wipeS vs s5)[j]? = none := fun s5 j hj => by
      rw [wipeS_get, if_pos hj]
      cases s5[j]? with
      | none => exact .inr rfl
      | some _ => exact .inl rfl
    refine ⟨wb, fun s0 H0 C cl fp => ?_⟩
    refine q3 s0 H0 C cl fp _ B σ3 _ H3 _ low2 h3 fun s4 t H4 ⟨q4, q5⟩ h4 => ?_
    cases t with
    | false =>
      refine iteF ⟨_, acc, q5 rfl, nos s4, ?_⟩
      exact h4.other (by rw [z3.2]) wo
    | true =>
      refine iteT fun s0 H0 C cl fp => ?_
      refine q4 rfl s0 H0 C cl fp _ B σ3 _ H4 _ low2 h4 fun s5 r y5 H5 ⟨d, er, ll, q6⟩ h5 => ?_
      subst er
      obtain ⟨fp5, h5⟩ := h5
      obtain ⟨avs, e1, e2, h6⟩ := h5.snoc low'
      refine ⟨avs, e1, Nat.lt_trans (by omega : avs.length < 1000000) (by decide), _, _, q6, nos s5, ?_⟩
      exact h6.other (by rw [z3.2]) wo
  · have e : i = els.length := by omega
    subst e
    refine .inl ⟨stop _ (Nat.le_refl _), ?_⟩
    have h2 : Held X.K m B H' (wipe σ vs) (s.map (killT ts.length)) (.ref D :: (rv ++ tv)) (.own (.lst acc) :: (rs ++ ts)) := h'.less (fun k q l => by
      rcases q with q | q
      · exact q
      · omega) (hm.app (.own (.lst acc) :: rs)) fun s hs => by
        rcases List.mem_cons.mp hs with rfl | hs
        · exact fun _ _ z => nomatch z
        · exact vk s hs
    have h3 := Held.under h2 rl hm
    refine k _ _ _ H' (fin s acc hI) ?_
    obtain ⟨fp, f⟩ := h3
    refine ⟨fp, f.base, by rw [← wl]; exact f.slen, f.tlen, f.mle, fun j s' e => ?_, f.tmp, f.disj, f.nod, f.out, f.dom⟩
    by_cases hj : j ∈ vs
    · rw [List.getElem?_map] at e
      rcases hno j hj with z | z
      · rw [z] at e
        have e2 : Slot.no = s' := Option.some.inj e
        subst e2
        trivial
      · rw [z] at e
        cases e
    · have z := f.var j s' e
      rw [we j hj] at z
      exact z
theorem ev_lc {elt iter : Expr} {ifs : List Expr} {scope : Scope} (own : List (Str × Nat)) (hc : X.calm = true) (hN : X.N.Nodup) (ok : BlkOk X.N X.env.scope scope own)
    (h : IV X tg iter ss ts fun s1 rs els => ∃ I : Nat → List Slot → List D → Prop, I 0 (wipeS (own.map (·.2)) s1) [] ∧
      (∀ i el s acc, els[i]? = some el → I i s acc → LcTurn X elt tg ifs scope (own.map (·.2)) el s (rs ++ ts) acc (I (i + 1))) ∧ ∀ s acc, I els.length s acc → Φ (s.map (killT ts.length)) (.own (.lst acc)))
    (hs : ∀ x, foldedSetIterable iter X.env x = pure x := by intro _; rfl) : EV X (.ListComp elt [⟨tg, iter, ifs, 0⟩] scope pos) ss ts Φ := fun m B σ tv H Q hm hh k => by
  refine toE (pe_lc hc hN pi_w ok (fun s H C cl fp => ⟨fun pins s' σ H v u Q I r h => h s _ C cl fp pins s' u I r⟩) (fun s H C cl fp => ⟨fun pins s' σ H Q I h => ?_⟩) (fun s H C cl fp => ⟨fun pins s' σ H Q I h => h s _ C cl fp pins s' I⟩) hs) (lc_all h hm hh k)
  exact pts_w.run pins s' σ H Q I (h s _ C cl fp)
/-- name = [..] on one line -/
theorem s1_setLc {i : Nat} {y : Str} {py : Pos} {elt iter : Expr} {ifs : List Expr} {scope : Scope} {spos : Pos} (own : List (Str × Nat)) (hc : X.calm = true) (hN : X.N.Nodup) (hy : X.N[i]? = some y) (hyl : X.env.scope.names.lookup y = some .local)
    (hsw : swapsWith (.ListComp elt [⟨tg, iter, ifs, 0⟩] scope pos) (some (.Name y py)) spos.line X.env = pure true) (ok : BlkOk X.N X.env.scope scope own) (hfx : i ∉ fx) (hil : (ss[i]?).isSome = true)
    (h : IV X tg iter ss ts fun s1 rs els => ∃ I : Nat → List Slot → List D → Prop, I 0 (wipeS (own.map (·.2)) s1) [] ∧
      (∀ i el s acc, els[i]? = some el → I i s acc → LcTurn X elt tg ifs scope (own.map (·.2)) el s (rs ++ ts) acc (I (i + 1))) ∧
      ∀ s acc, I els.length s acc → s.length = ss.length ∧ noView (.v i) ts = true ∧ E.nx (((s.map (killT ts.length)).map (kill (.v i))).set i (.own (.lst acc))))
    (hs : ∀ x, foldedSetIterable iter X.env x = pure x := by intro _; rfl) : S1 X fx (.Assign [.Name y py] (.ListComp elt [⟨tg, iter, ifs, 0⟩] scope pos) spos) ss ts E := fun B σ tv H D hh k => by
  refine toS (ps_setLc (wi := wI X tg iter) (g := fun v σ H Q => ∀ s0 H0 C cl fp, wG (X.blk s0 H0 scope (compEnvC scope cl C X.env) fp) tg v σ H Q) (tt := fun σ H Q => ∀ s0 H0 C cl fp, wTs (X.blk s0 H0 scope (compEnvC scope cl C X.env) fp) ifs σ H Q)
    (te := fun σ H Q => ∀ s0 H0 C cl fp, wE (X.blk s0 H0 scope (compEnvC scope cl C X.env) fp) elt σ H Q) hc hN hy hyl hsw pi_w ok (fun s H C cl fp => ⟨fun pins s' σ H v u Q I r h => h s _ C cl fp pins s' u I r⟩) (fun s H C cl fp => ⟨fun pins s' σ H Q I h => ?_⟩) (fun s H C cl fp => ⟨fun pins s' σ H Q I h => h s _ C cl fp pins s' I⟩) hs) ?_
  · exact pts_w.run pins s' σ H Q I (h s _ C cl fp)
  · refine lc_all (Φ := fun s r => s.length = ss.length ∧ noView (.v i) ts = true ∧ (∃ acc, r = .own (.lst acc)) ∧ E.nx ((s.map (kill (.v i))).set i r)) (h := ?_) Low.self hh fun s r v H' ⟨l, n1, ⟨acc, e⟩, q⟩ h' => ?_
    · intro m B σ tv H R hm hh kk
      refine h m B σ tv H R hm hh fun s1 rs rv els J H' ⟨I, i0, st, fi⟩ => kk s1 rs rv els J H' ⟨I, i0, st, fun s acc q => ?_⟩
      obtain ⟨l, n, q⟩ := fi s acc q
      exact ⟨by simpa using l, n, ⟨acc, rfl⟩, q⟩
    · subst e
      refine k.nx _ _ H' q (h'.assign Low.self (by rw [l]; exact isSome_lt hil) n1 (fun _ z => nomatch z)) fun j hj => ?_
      exact List.getElem?_set_ne (fun z => by subst z; exact hfx hj)

/-! ### calls of the program's own defs -/
def isAll : List Slot → List D → Prop
  | [], [] => True
  | r :: rs, d :: ds => r.is d ∧ isAll rs ds
  | _, _ => False
theorem isAll.len : ∀ {rs : List Slot} {ds : List D}, isAll rs ds → rs.length = ds.length
  | [], [], _ => rfl
  | _ :: _, _ :: _, h => by rw [List.length_cons, List.length_cons, isAll.len h.2]
  | [], _ :: _, h => h.elim
  | _ :: _, [], h => h.elim
theorem isAll.app : ∀ {rs rs' : List Slot} {ds ds' : List D}, isAll rs ds → isAll rs' ds' → isAll (rs ++ rs') (ds ++ ds')
  | [], _, [], _, _, k => k
  | _ :: _, _, _ :: _, _, h, k => ⟨h.1, isAll.app h.2 k⟩
  | [], _, _ :: _, _, h, _ => h.elim
  | _ :: _, _, [], _, h, _ => h.elim
theorem isAll.rev : ∀ {rs : List Slot} {ds : List D}, isAll rs ds → isAll rs.reverse ds.reverse
  | [], [], _ => trivial
  | r :: rs, d :: ds, h => by
    rw [List.reverse_cons, List.reverse_cons]
    exact (isAll.rev h.2).app ⟨h.1, trivial⟩
  | [], _ :: _, h => h.elim
  | _ :: _, [], h => h.elim
section
variable {K : PySem.W.Frag} {m : Nat → Prop} {B H : Hp} {σ : List (Option V)} {tv vs : List V} {rs : List Slot} {ds : List D}
theorem Held.reps : ∀ {rs : List Slot} {vs : List V} {ds : List D}, vs.length = rs.length → Held K m B H σ ss (vs ++ tv) (rs ++ ts) → isAll rs ds → Low m ts.length → RepRs K H ds vs
  | [], [], [], _, _, _, _ => by unfold RepRs; rfl
  | r :: rs, v :: vs, d :: ds, e, h, q, hm => by
    unfold RepRs
    exact ⟨v, vs, rfl, Held.top h q.1, Held.reps (rs := rs) (vs := vs) (ds := ds) (by simpa using e) (Held.pop h (hm.app _)) q.2 hm⟩
  | [], _ :: _, _, e, _, _, _ => nomatch e
  | _ :: _, [], _, e, _, _, _ => nomatch e
  | _ :: _, _ :: _, [], _, _, q, _ => q.elim
  | [], [], _ :: _, _, _, q, _ => q.elim
theorem RepRs.rev {ds : List D} {vs : List V} (h : RepRs K H ds vs) : RepRs K H ds.reverse vs.reverse := by
  induction ds generalizing vs with
  | nil => unfold RepRs at h; subst h; unfold RepRs; rfl
  | cons d ds ih =>
    unfold RepRs at h
    obtain ⟨w, ws, rfl, h1, h2⟩ := h
    rw [List.reverse_cons, List.reverse_cons]
    exact (ih h2).append (by unfold RepRs; exact ⟨w, [], rfl, h1, by unfold RepRs; rfl⟩)
/-- the data of arguments on the way -/
theorem Held.argsOf (h : Held K m B H σ ss (vs.reverse ++ tv) (rs.reverse ++ ts)) (l : vs.length = rs.length) (q : isAll rs ds) (hm : Low m ts.length) : RepRs K H ds vs := by
  have z := Held.reps (by simpa using l) h q.rev hm
  have z2 := RepRs.rev z
  rw [List.reverse_reverse, List.reverse_reverse] at z2
  exact z2
theorem Held.popA (h : Held K m B H σ ss (vs.reverse ++ tv) (rs.reverse ++ ts)) (l : vs.length = rs.length) (hm : Low m ts.length) : Held K m B H σ ss tv ts := Held.popN (by simpa using l) h hm
end
/-- what is known of a value that a call has brought: new data in H' -/
def New (K : PySem.W.Frag) (H H' : Hp) (v : V) (d : D) : Prop := Ex H H' ∧ ∃ F, RepO K H' d v F ∧ F.Nodup ∧ ∀ a ∈ F, H a = none
theorem Held.new {K : PySem.W.Frag} {m : Nat → Prop} {B H H' : Hp} {σ : List (Option V)} {tv : List V} {v : V} {d : D} (h : Held K m B H σ ss tv ts) (n : New K H H' v d) : Held K m B H' σ ss (v :: tv) (.own d :: ts) := by
  obtain ⟨ex, F, r, nd, nw⟩ := n
  exact h.fresh ex r nd nw
/-- a promise with no changed argument, from the data of the arguments -/
theorem spP_use {K : PySem.W.Frag} {F : List D → (D → Prop) → Prop} {ds : List D} {vs : List V} {H : Hp} {Q : VK} {Ex' : XK} (r : RepRs K H ds vs) {k : D → Prop} (hF : F ds k) (q : ∀ d v H', k d → New K H H' v d → Q v H') : spP K F vs H Q Ex' := by
  refine ⟨H, ds.map Slot.par, held_par r, ds, k, rfl, hF, fun d hk v H' ⟨fp, h⟩ => ?_⟩
  obtain ⟨w, e1, e2⟩ := h.top
  cases e1
  exact q d v H' hk ⟨h.base, _, e2, h.nod _, fun a ha => h.out _ a ha⟩
section
variable {CX : CXT} {k : Nat} {f : Addr} {fd : FuncData} {ps : List Str} {x : Str} {p : Pos} {EX : XK} {F : List D → (D → Prop) → Prop}
theorem ev_call {dvs : List V} {dfl : List Value} {dds : List D} (G : FnOk X.prog X.w X.K X.mg X.base CX k f fd ps (spP X.K F)) (hr : Room k X.A) (hg : Gl X x) (hm : X.mg x = some (.ref f)) (hk : PySem.W.keepIn X.K (.ref f) = true) (hb : Binds X.K fd ps dfl) (hd : Vals dvs dfl) (hdd : ∀ H, RepRs X.K H dds dvs) (hx : Passes CX X EX)
    (h : AV X (e :: es) ss ts fun s rs => ∃ ds, isAll rs ds ∧ F (ds ++ dds) fun d => Φ s (.own d))
    (hdb : (x == ("__debug__" : Str)) = false := by decide) (he : starEach (e :: es) X.env = (false, eval e X.env) :: starEach es X.env := by rfl) (hpl : (backTo pos (starEach es X.env)).any (·.1) = false := by rfl) : EV X (.Call (.Name x p) (e :: es) [] pos) ss ts Φ := fun m B σ tv H Q hm' hh kk => by
  refine toE (pe_call G hr hg hm hk hb hd hx pa_w hdb he hpl) ?_
  refine h m B σ tv H _ hm' hh fun s rs vs H1 ⟨ds, ia, hF⟩ l1 l2 hh1 => ?_
  have hpop := hh1.popA l1 hm'
  refine spP_use ((hh1.argsOf l1 ia hm').append (hdd H1)) hF fun d v H2 q n => ?_
  exact kk s _ v H2 q (hpop.new n)
end
end
end DL
/-! The data layer, part 6: operators, built-in functions and methods. -/
namespace DL
open PySem PySem.Spec PyProof.Rows L2

section
variable {X : Cx} {fx : List Nat} {ss ts : List Slot} {Φ : List Slot → Slot → Prop} {e a b c tg it o : Expr} {es : List Expr} {pos p2 apos : Pos} {E : DE} {Θ : List Slot → Bool → Prop}

/-! ### ints and texts, two operands -/
theorem ev_ii {op : Operator} {C : Int → Int → Prop} {g : Int → Int → Int} (ho : OpR X (binaryOp op) (rI C fun i j => .int (g i j))) (h : EV X a ss ts fun s1 r1 => EV X b s1 (r1 :: ts) fun s2 r2 => ∃ i j, r1.is (.int i) ∧ r2.is (.int j) ∧ C i j ∧ Φ s2 (.own (.int (g i j)))) : EV X (.BinOp a op b pos) ss ts Φ :=
  ev_op2 ho (h.imp fun s1 r1 h1 => h1.imp fun s2 r2 ⟨i, j, e1, e2, hc, q⟩ => ⟨_, _, _, e1, e2, fun H x y rx ry => ⟨.int (g i j), fun H => o_int, fun Q q => by
    rw [rep_int] at rx ry
    exact ⟨i, j, rx, ry, hc, q⟩⟩, q⟩)
theorem ev_ii0 {op : Operator} {g : Int → Int → Int} (ho : OpR X (binaryOp op) (rI0 fun i j => .int (g i j))) (h : EV X a ss ts fun s1 r1 => EV X b s1 (r1 :: ts) fun s2 r2 => ∃ i j, r1.is (.int i) ∧ r2.is (.int j) ∧ Φ s2 (.own (.int (g i j)))) : EV X (.BinOp a op b pos) ss ts Φ :=
  ev_op2 ho (h.imp fun s1 r1 h1 => h1.imp fun s2 r2 ⟨i, j, e1, e2, q⟩ => ⟨_, _, _, e1, e2, fun H x y rx ry => ⟨.int (g i j), fun H => o_int, fun Q q => by
    rw [rep_int] at rx ry
    exact ⟨i, j, rx, ry, q⟩⟩, q⟩)
theorem ev_add (h : EV X a ss ts fun s1 r1 => EV X b s1 (r1 :: ts) fun s2 r2 => ∃ i j, r1.is (.int i) ∧ r2.is (.int j) ∧ Φ s2 (.own (.int (i + j)))) : EV X (.BinOp a .Add b pos) ss ts Φ := ev_ii0 op_add h
theorem ev_sub (h : EV X a ss ts fun s1 r1 => EV X b s1 (r1 :: ts) fun s2 r2 => ∃ i j, r1.is (.int i) ∧ r2.is (.int j) ∧ Φ s2 (.own (.int (i - j)))) : EV X (.BinOp a .Sub b pos) ss ts Φ := ev_ii0 op_sub h
theorem ev_mul (h : EV X a ss ts fun s1 r1 => EV X b s1 (r1 :: ts) fun s2 r2 => ∃ i j, r1.is (.int i) ∧ r2.is (.int j) ∧ CMulW i j ∧ Φ s2 (.own (.int (i * j)))) : EV X (.BinOp a .Mult b pos) ss ts Φ := ev_ii op_mulW h
/-- .. one factor within 2^64 -/
theorem ev_mulS (h : EV X a ss ts fun s1 r1 => EV X b s1 (r1 :: ts) fun s2 r2 => ∃ i j, r1.is (.int i) ∧ r2.is (.int j) ∧ CMul i j ∧ Φ s2 (.own (.int (i * j)))) : EV X (.BinOp a .Mult b pos) ss ts Φ := ev_ii op_mul h
/-- % by a positive number, // by a positive one below 2^9000 -/
theorem ev_mod (h : EV X a ss ts fun s1 r1 => EV X b s1 (r1 :: ts) fun s2 r2 => ∃ i j, r1.is (.int i) ∧ r2.is (.int j) ∧ 0 < j ∧ Φ s2 (.own (.int (i % j)))) : EV X (.BinOp a .Mod b pos) ss ts Φ := ev_ii op_mod h
theorem ev_fdiv (h : EV X a ss ts fun s1 r1 => EV X b s1 (r1 :: ts) fun s2 r2 => ∃ i j, r1.is (.int i) ∧ r2.is (.int j) ∧ CDivW i j ∧ Φ s2 (.own (.int (i / j)))) : EV X (.BinOp a .FloorDiv b pos) ss ts Φ := ev_ii op_fdivW h
theorem ev_modN (h : EV X a ss ts fun s1 r1 => EV X b s1 (r1 :: ts) fun s2 r2 => ∃ i j, r1.is (.int i) ∧ r2.is (.int j) ∧ j ≠ 0 ∧ Φ s2 (.own (.int (i.fmod j)))) : EV X (.BinOp a .Mod b pos) ss ts Φ := ev_ii op_modN h
theorem op_fdivWN : OpR X (binaryOp .FloorDiv) (rI (fun _ j => j ≠ 0 ∧ j.natAbs.log2 < 9000) fun i j => .int (i.fdiv j)) := opI fun _ _ _ _ _ _ _ hc q => floordiv_int hc.1 q (.inl (PyProof.noPylong_of_log2 hc.2))
theorem ev_fdivN (h : EV X a ss ts fun s1 r1 => EV X b s1 (r1 :: ts) fun s2 r2 => ∃ i j, r1.is (.int i) ∧ r2.is (.int j) ∧ (j ≠ 0 ∧ j.natAbs.log2 < 9000) ∧ Φ s2 (.own (.int (i.fdiv j)))) : EV X (.BinOp a .FloorDiv b pos) ss ts Φ := ev_ii op_fdivWN h
theorem ev_neg (h : EV X a ss ts fun s1 r1 => ∃ i, r1.is (.int i) ∧ Φ s1 (.own (.int (-i)))) : EV X (.UnaryOp .USub a pos) ss ts Φ :=
  ev_un un_neg (h.imp fun s r ⟨i, e, q⟩ => ⟨_, _, e, fun H x rx => ⟨.int (-i), fun H => o_int, fun Q q => by
    rw [rep_int] at rx
    exact ⟨i, rx, q⟩⟩, q⟩)
theorem ev_addS (h : EV X a ss ts fun s1 r1 => EV X b s1 (r1 :: ts) fun s2 r2 => ∃ x y, r1.is (.str x) ∧ r2.is (.str y) ∧ x.length + y.length ≤ 1000000 ∧ Φ s2 (.own (.str (x ++ y)))) : EV X (.BinOp a .Add b pos) ss ts Φ :=
  ev_op2 op_add_str (h.imp fun s1 r1 h1 => h1.imp fun s2 r2 ⟨i, j, e1, e2, hc, q⟩ => ⟨_, _, _, e1, e2, fun H x y rx ry => ⟨.str (i ++ j), fun H => o_str, fun Q q => by
    rw [rep_str] at rx ry
    exact ⟨i, j, rx, ry, Nat.le_trans hc (by decide), q⟩⟩, q⟩)

/-! ### comparisons -/
theorem tv_i {op : CmpOp} {g : Int → Int → Bool} (ho : OpR X (compareOp op) (rI0 fun i j => .bl (g i j))) (h1 : behindInMarks op b = false) (h : EV X a ss ts fun s1 r1 => EV X b s1 (r1 :: ts) fun s2 r2 => ∃ i j, r1.is (.int i) ∧ r2.is (.int j) ∧ Θ s2 (g i j)) : TV X (.Compare a [op] [b] pos) ss ts Θ :=
  tv_cmp2 ho h1 (h.imp fun s1 r1 h1 => h1.imp fun s2 r2 ⟨i, j, e1, e2, q⟩ => ⟨_, _, _, e1, e2, fun H x y rx ry Q q => by
    rw [rep_int] at rx ry
    exact ⟨i, j, rx, ry, q⟩, q⟩)
theorem tv_lt (h : EV X a ss ts fun s1 r1 => EV X b s1 (r1 :: ts) fun s2 r2 => ∃ i j, r1.is (.int i) ∧ r2.is (.int j) ∧ Θ s2 (decide (i < j))) : TV X (.Compare a [.Lt] [b] pos) ss ts Θ := tv_i op_lt (nobehind _ (by decide) (by decide)) h
theorem tv_le (h : EV X a ss ts fun s1 r1 => EV X b s1 (r1 :: ts) fun s2 r2 => ∃ i j, r1.is (.int i) ∧ r2.is (.int j) ∧ Θ s2 (decide (i ≤ j))) : TV X (.Compare a [.LtE] [b] pos) ss ts Θ := tv_i op_le (nobehind _ (by decide) (by decide)) h
theorem tv_gt (h : EV X a ss ts fun s1 r1 => EV X b s1 (r1 :: ts) fun s2 r2 => ∃ i j, r1.is (.int i) ∧ r2.is (.int j) ∧ Θ s2 (decide (j < i))) : TV X (.Compare a [.Gt] [b] pos) ss ts Θ := tv_i op_gt (nobehind _ (by decide) (by decide)) h
theorem tv_ge (h : EV X a ss ts fun s1 r1 => EV X b s1 (r1 :: ts) fun s2 r2 => ∃ i j, r1.is (.int i) ∧ r2.is (.int j) ∧ Θ s2 (decide (j ≤ i))) : TV X (.Compare a [.GtE] [b] pos) ss ts Θ := tv_i op_ge (nobehind _ (by decide) (by decide)) h
/-- scalars: ints, texts, bools, None -/
def D.sc : D → Option V
  | .int i => some (.int i)
  | .str x => some (.str x)
  | .bl b => some (.bl b)
  | .non => some .non
  | _ => none
theorem D.sc_rep {K : PySem.W.Frag} {H : Hp} {d : D} {v x : V} (h : RepR K H d v) (e : d.sc = some x) : v = x := by
  cases d with
  | int i => unfold RepR at h; cases e; exact h
  | str i => unfold RepR at h; cases e; exact h
  | bl i => unfold RepR at h; cases e; exact h
  | non => unfold RepR at h; cases e; exact h
  | _ => cases e
theorem tv_eq (h : EV X a ss ts fun s1 r1 => EV X b s1 (r1 :: ts) fun s2 r2 => ∃ d1 d2 x y, r1.is d1 ∧ r2.is d2 ∧ d1.sc = some x ∧ d2.sc = some y ∧ scal x y = true ∧ Θ s2 (decide (x = y))) : TV X (.Compare a [.Eq] [b] pos) ss ts Θ :=
  tv_cmp2 op_eq (nobehind _ (by decide) (by decide)) (h.imp fun s1 r1 h1 => h1.imp fun s2 r2 ⟨d1, d2, x, y, e1, e2, c1, c2, c3, q⟩ => ⟨_, _, _, e1, e2, fun H u w rx ry Q q => by
    rw [D.sc_rep rx c1, D.sc_rep ry c2]
    exact ⟨c3, q⟩, q⟩)
theorem tv_ne (h : EV X a ss ts fun s1 r1 => EV X b s1 (r1 :: ts) fun s2 r2 => ∃ d1 d2 x y, r1.is d1 ∧ r2.is d2 ∧ d1.sc = some x ∧ d2.sc = some y ∧ scal x y = true ∧ Θ s2 (!decide (x = y))) : TV X (.Compare a [.NotEq] [b] pos) ss ts Θ :=
  tv_cmp2 op_ne (nobehind _ (by decide) (by decide)) (h.imp fun s1 r1 h1 => h1.imp fun s2 r2 ⟨d1, d2, x, y, e1, e2, c1, c2, c3, q⟩ => ⟨_, _, _, e1, e2, fun H u w rx ry Q q => by
    rw [D.sc_rep rx c1, D.sc_rep ry c2]
    exact ⟨c3, q⟩, q⟩)

/-! ### == of nested data -/
mutual
/-- plain data without instances, as the library's -/
def D.py : D → Option PyData
  | .non => some .none
  | .bl b => some (.bool b)
  | .int i => some (.int i)
  | .str x => some (.str x)
  | .tup l => (D.pys l).map .tuple
  | .lst l => (D.pys l).map .list
  | .fz l => (D.pys l).map .list
  | _ => none
def D.pys : List D → Option (List PyData)
  | [] => some []
  | d :: ds => match d.py, D.pys ds with
    | some p, some ps => some (p :: ps)
    | _, _ => none
end
mutual
theorem D.dp {K : PySem.W.Frag} {H : Hp} : ∀ {d : D} {p : PyData} {v : V}, RepR K H d v → d.py = some p → Dp K H v p
  | .non, _, _, h, e => by unfold RepR at h; unfold D.py at e; cases e; subst h; exact Dp.non
  | .bl _, _, _, h, e => by unfold RepR at h; unfold D.py at e; cases e; subst h; exact Dp.bl _
  | .int _, _, _, h, e => by unfold RepR at h; unfold D.py at e; cases e; subst h; exact Dp.int _
  | .str _, _, _, h, e => by unfold RepR at h; unfold D.py at e; cases e; subst h; exact Dp.str _
  | .raw _, _, _, h, e => by unfold D.py at e; cases e
  | .fz l, _, _, h, e => by
    unfold RepR at h
    unfold D.py at e
    obtain ⟨a, vs, rfl, h1, h2⟩ := h
    obtain ⟨ps, e1, rfl⟩ := Option.map_eq_some_iff.mp e
    exact Dp.lst h1.sql (D.dps h2 e1)
  | .ins _ _ _, _, _, h, e => by unfold D.py at e; cases e
  | .tup l, _, _, h, e => by
    unfold RepR at h
    unfold D.py at e
    obtain ⟨a, vs, rfl, h1, h2⟩ := h
    obtain ⟨ps, e1, rfl⟩ := Option.map_eq_some_iff.mp e
    exact Dp.tup h1 (D.dps h2 e1)
  | .lst l, _, _, h, e => by
    unfold RepR at h
    unfold D.py at e
    obtain ⟨a, vs, rfl, h1, h2⟩ := h
    obtain ⟨ps, e1, rfl⟩ := Option.map_eq_some_iff.mp e
    exact Dp.lst (SqL.of h1) (D.dps h2 e1)
theorem D.dps {K : PySem.W.Frag} {H : Hp} : ∀ {ds : List D} {ps : List PyData} {vs : List V}, RepRs K H ds vs → D.pys ds = some ps → DpAll K H vs ps
  | [], _, _, h, e => by unfold RepRs at h; unfold D.pys at e; cases e; subst h; exact DpAll.nil
  | d :: ds, _, _, h, e => by
    unfold RepRs at h
    unfold D.pys at e
    obtain ⟨w, ws, rfl, h1, h2⟩ := h
    split at e
    · rename_i p ps e1 e2
      cases e
      exact DpAll.cons (D.dp h1 e1) (D.dps h2 e2)
    · cases e
end
theorem tv_eqD (hu : X.A.units + 64 < cLine) (h : EV X a ss ts fun s1 r1 => EV X b s1 (r1 :: ts) fun s2 r2 => ∃ d1 d2 x y, r1.is d1 ∧ r2.is d2 ∧ d1.py = some x ∧ d2.py = some y ∧ SeqAt.shaped x = true ∧ SeqAt.shaped y = true ∧ Θ s2 (PyData.eqv x y)) : TV X (.Compare a [.Eq] [b] pos) ss ts Θ :=
  tv_cmp2 (op_eqD hu) (nobehind _ (by decide) (by decide)) (h.imp fun s1 r1 h1 => h1.imp fun s2 r2 ⟨d1, d2, x, y, e1, e2, c1, c2, c3, c4, q⟩ => ⟨_, _, _, e1, e2, fun H u w rx ry Q q => ⟨x, y, D.dp rx c1, D.dp ry c2, c3, c4, q⟩, q⟩)
theorem tv_neD (hu : X.A.units + 64 < cLine) (h : EV X a ss ts fun s1 r1 => EV X b s1 (r1 :: ts) fun s2 r2 => ∃ d1 d2 x y, r1.is d1 ∧ r2.is d2 ∧ d1.py = some x ∧ d2.py = some y ∧ SeqAt.shaped x = true ∧ SeqAt.shaped y = true ∧ Θ s2 (!PyData.eqv x y)) : TV X (.Compare a [.NotEq] [b] pos) ss ts Θ :=
  tv_cmp2 (op_neD hu) (nobehind _ (by decide) (by decide)) (h.imp fun s1 r1 h1 => h1.imp fun s2 r2 ⟨d1, d2, x, y, e1, e2, c1, c2, c3, c4, q⟩ => ⟨_, _, _, e1, e2, fun H u w rx ry Q q => ⟨x, y, D.dp rx c1, D.dp ry c2, c3, c4, q⟩, q⟩)
/-- comparisons as values -/
theorem ev_eqD (hu : X.A.units + 64 < cLine) (h : EV X a ss ts fun s1 r1 => EV X b s1 (r1 :: ts) fun s2 r2 => ∃ d1 d2 x y, r1.is d1 ∧ r2.is d2 ∧ d1.py = some x ∧ d2.py = some y ∧ SeqAt.shaped x = true ∧ SeqAt.shaped y = true ∧ Φ s2 (.own (.bl (PyData.eqv x y)))) : EV X (.Compare a [.Eq] [b] pos) ss ts Φ :=
  ev_cmp2 (op_eqD hu) (nobehind _ (by decide) (by decide)) (h.imp fun s1 r1 h1 => h1.imp fun s2 r2 ⟨d1, d2, x, y, e1, e2, c1, c2, c3, c4, q⟩ => ⟨_, _, _, e1, e2, fun H u w rx ry => ⟨_, fun H => o_bl, fun Q q => ⟨x, y, D.dp rx c1, D.dp ry c2, c3, c4, q⟩⟩, q⟩)
theorem ev_eq (h : EV X a ss ts fun s1 r1 => EV X b s1 (r1 :: ts) fun s2 r2 => ∃ d1 d2 x y, r1.is d1 ∧ r2.is d2 ∧ d1.sc = some x ∧ d2.sc = some y ∧ scal x y = true ∧ Φ s2 (.own (.bl (decide (x = y))))) : EV X (.Compare a [.Eq] [b] pos) ss ts Φ :=
  ev_cmp2 op_eq (nobehind _ (by decide) (by decide)) (h.imp fun s1 r1 h1 => h1.imp fun s2 r2 ⟨d1, d2, x, y, e1, e2, c1, c2, c3, q⟩ => ⟨_, _, _, e1, e2, fun H u w rx ry => ⟨_, fun H => o_bl, fun Q q => by
    rw [D.sc_rep rx c1, D.sc_rep ry c2]
    exact ⟨c3, q⟩⟩, q⟩)
theorem ev_ci {op : CmpOp} {g : Int → Int → Bool} (ho : OpR X (compareOp op) (rI0 fun i j => .bl (g i j))) (h1 : behindInMarks op b = false) (h : EV X a ss ts fun s1 r1 => EV X b s1 (r1 :: ts) fun s2 r2 => ∃ i j, r1.is (.int i) ∧ r2.is (.int j) ∧ Φ s2 (.own (.bl (g i j)))) : EV X (.Compare a [op] [b] pos) ss ts Φ :=
  ev_cmp2 ho h1 (h.imp fun s1 r1 h1 => h1.imp fun s2 r2 ⟨i, j, e1, e2, q⟩ => ⟨_, _, _, e1, e2, fun H x y rx ry => ⟨_, fun H => o_bl, fun Q q => by
    rw [rep_int] at rx ry
    exact ⟨i, j, rx, ry, q⟩⟩, q⟩)
theorem ev_lt (h : EV X a ss ts fun s1 r1 => EV X b s1 (r1 :: ts) fun s2 r2 => ∃ i j, r1.is (.int i) ∧ r2.is (.int j) ∧ Φ s2 (.own (.bl (decide (i < j))))) : EV X (.Compare a [.Lt] [b] pos) ss ts Φ := ev_ci op_lt (nobehind _ (by decide) (by decide)) h
theorem ev_ge (h : EV X a ss ts fun s1 r1 => EV X b s1 (r1 :: ts) fun s2 r2 => ∃ i j, r1.is (.int i) ∧ r2.is (.int j) ∧ Φ s2 (.own (.bl (decide (j ≤ i))))) : EV X (.Compare a [.GtE] [b] pos) ss ts Φ := ev_ci op_ge (nobehind _ (by decide) (by decide)) h
theorem ev_gt (h : EV X a ss ts fun s1 r1 => EV X b s1 (r1 :: ts) fun s2 r2 => ∃ i j, r1.is (.int i) ∧ r2.is (.int j) ∧ Φ s2 (.own (.bl (decide (j < i))))) : EV X (.Compare a [.Gt] [b] pos) ss ts Φ := ev_ci op_gt (nobehind _ (by decide) (by decide)) h
theorem ev_le (h : EV X a ss ts fun s1 r1 => EV X b s1 (r1 :: ts) fun s2 r2 => ∃ i j, r1.is (.int i) ∧ r2.is (.int j) ∧ Φ s2 (.own (.bl (decide (i ≤ j))))) : EV X (.Compare a [.LtE] [b] pos) ss ts Φ := ev_ci op_le (nobehind _ (by decide) (by decide)) h

/-! ### built-in functions, types -/
def CallD (K : PySem.W.Frag) (r : List V → Hp → VK → Prop) (ds : List D) (P : D → Prop) : Prop := ∀ H vs Q, RepRs K H ds vs → (∀ d v H', P d → New K H H' v d → Q v H') → r vs H Q
theorem New.flat {K : PySem.W.Frag} {H : Hp} {v : V} {d : D} (r : RepO K H d v []) : New K H H v d := ⟨Ex.refl H, [], r, List.nodup_nil, fun _ z => nomatch z⟩
theorem reps1 {K : PySem.W.Frag} {H : Hp} {d : D} {vs : List V} (h : RepRs K H [d] vs) : ∃ v, vs = [v] ∧ RepR K H d v := by
  unfold RepRs at h
  obtain ⟨w, ws, rfl, h1, h2⟩ := h
  unfold RepRs at h2
  subst h2
  exact ⟨w, rfl, h1⟩
theorem reps2 {K : PySem.W.Frag} {H : Hp} {d e : D} {vs : List V} (h : RepRs K H [d, e] vs) : ∃ v w, vs = [v, w] ∧ RepR K H d v ∧ RepR K H e w := by
  unfold RepRs at h
  obtain ⟨w, ws, rfl, h1, h2⟩ := h
  obtain ⟨v, rfl, h3⟩ := reps1 h2
  exact ⟨w, v, rfl, h1, h3⟩
section
variable {id T : String} {r : List V → Hp → VK → Prop} {x : Str} {p : Pos}
theorem ev_callB (hc : CallR X (.builtin id) r) (hg : Gl X x) (hm : X.mg x = none) (hv : bootBuiltins x = some (.builtin id)) (h : AV X (e :: es) ss ts fun s rs => ∃ ds P, isAll rs ds ∧ CallD X.K r ds P ∧ ∀ d, P d → Φ s (.own d))
    (hn : x ≠ "__name__" := by decide) (hdb : (x == ("__debug__" : Str)) = false := by decide)
    (he : starEach (e :: es) X.env = (false, eval e X.env) :: starEach es X.env := by rfl) (hpl : (backTo pos (starEach es X.env)).any (·.1) = false := by rfl) : EV X (.Call (.Name x p) (e :: es) [] pos) ss ts Φ := fun m B σ tv H Q hm' hh kk => by
  refine toE (pe_callB hc hg hm hv pa_w hn hdb he hpl) ?_
  refine h m B σ tv H _ hm' hh fun s rs vs H1 ⟨ds, P, ia, cd, q⟩ l1 l2 hh1 => ?_
  refine cd H1 vs Q (hh1.argsOf l1 ia hm') fun d v H2 hP n => ?_
  exact kk s _ v H2 (q d hP) ((hh1.popA l1 hm').new n)
theorem ev_callTy (hc : CallR X (.type T) r) (hg : Gl X x) (hm : X.mg x = none) (hv : bootBuiltins x = some (.type T)) (h : AV X (e :: es) ss ts fun s rs => ∃ ds P, isAll rs ds ∧ CallD X.K r ds P ∧ ∀ d, P d → Φ s (.own d))
    (hn : x ≠ "__name__" := by decide) (hdb : (x == ("__debug__" : Str)) = false := by decide)
    (he : starEach (e :: es) X.env = (false, eval e X.env) :: starEach es X.env := by rfl) (hpl : (backTo pos (starEach es X.env)).any (·.1) = false := by rfl) : EV X (.Call (.Name x p) (e :: es) [] pos) ss ts Φ := fun m B σ tv H Q hm' hh kk => by
  refine toE (pe_callTy hc hg hm hv pa_w hn hdb he hpl) ?_
  refine h m B σ tv H _ hm' hh fun s rs vs H1 ⟨ds, P, ia, cd, q⟩ l1 l2 hh1 => ?_
  refine cd H1 vs Q (hh1.argsOf l1 ia hm') fun d v H2 hP n => ?_
  exact kk s _ v H2 (q d hP) ((hh1.popA l1 hm').new n)
end
def D.seqL : D → Option (List D)
  | .lst l => some l
  | .tup l => some l
  | .fz l => some l
  | _ => none
theorem D.seq_rep {K : PySem.W.Frag} {H : Hp} {d : D} {l : List D} {v : V} (h : RepR K H d v) (e : d.seqL = some l) : ∃ a vs, v = .ref a ∧ (SqL K H a vs ∨ SqT K H a vs) ∧ RepRs K H l vs := by
  cases d with
  | lst l => unfold RepR at h; cases e; obtain ⟨a, vs, h1, h2, h3⟩ := h; exact ⟨a, vs, h1, .inl (SqL.of h2), h3⟩
  | tup l => unfold RepR at h; cases e; obtain ⟨a, vs, h1, h2, h3⟩ := h; exact ⟨a, vs, h1, .inr h2, h3⟩
  | fz l => unfold RepR at h; cases e; obtain ⟨a, vs, h1, h2, h3⟩ := h; exact ⟨a, vs, h1, .inl h2.sql, h3⟩
  | _ => cases e
/-- len -/
theorem ev_len {p : Pos} (hg : Gl X "len") (hm : X.mg "len" = none) (h : EV X e ss ts fun s r => ∃ d l, r.is d ∧ d.seqL = some l ∧ Φ s (.own (.int ((l.length : Nat) : Int))))
    (he : starEach [e] X.env = (false, eval e X.env) :: starEach [] X.env := by rfl) : EV X (.Call (.Name "len" p) [e] [] pos) ss ts Φ :=
  ev_callB call_len_seq hg hm PySem.boot_len (av_cons (h.imp fun s r ⟨d, l, e1, e2, q⟩ => av_nil ⟨[d], fun d => d = .int ((l.length : Nat) : Int), ⟨e1, trivial⟩, fun H vs Q rr k => by
    obtain ⟨v, rfl, hv⟩ := reps1 rr
    obtain ⟨a, ws, rfl, h1, h2⟩ := D.seq_rep hv e2
    refine ⟨a, ws, rfl, h1, ?_⟩
    rw [h2.length]
    exact k _ _ H rfl (.flat o_int), fun d hd => by rw [hd]; exact q⟩) he) (he := he)
theorem ev_lenS {p : Pos} (hg : Gl X "len") (hm : X.mg "len" = none) (h : EV X e ss ts fun s r => ∃ x, r.is (.str x) ∧ x.length ≤ 1000000 ∧ Φ s (.own (.int ((x.length : Nat) : Int))))
    (he : starEach [e] X.env = (false, eval e X.env) :: starEach [] X.env := by rfl) : EV X (.Call (.Name "len" p) [e] [] pos) ss ts Φ :=
  ev_callB call_len_str hg hm PySem.boot_len (av_cons (h.imp fun s r ⟨x, e1, e2, q⟩ => av_nil ⟨[.str x], fun d => d = .int ((x.length : Nat) : Int), ⟨e1, trivial⟩, fun H vs Q rr k => by
    obtain ⟨v, rfl, hv⟩ := reps1 rr
    rw [rep_str] at hv
    exact ⟨x, by rw [hv], Nat.le_trans e2 (by decide), k _ _ H rfl (.flat o_int)⟩, fun d hd => by rw [hd]; exact q⟩) he) (he := he)
/-- str of an int -/
theorem ev_strI {p : Pos} (hg : Gl X "str") (hm : X.mg "str" = none) (h : EV X e ss ts fun s r => ∃ i, r.is (.int i) ∧ i.natAbs.log2 < 1920 ∧ Φ s (.own (.str (toString i))))
    (he : starEach [e] X.env = (false, eval e X.env) :: starEach [] X.env := by rfl) : EV X (.Call (.Name "str" p) [e] [] pos) ss ts Φ :=
  ev_callTy call_str_int hg hm (by decide +kernel) (av_cons (h.imp fun s r ⟨i, e1, e2, q⟩ => av_nil ⟨[.int i], fun d => d = .str (toString i), ⟨e1, trivial⟩, fun H vs Q rr k => by
    obtain ⟨v, rfl, hv⟩ := reps1 rr
    rw [rep_int] at hv
    exact ⟨i, by rw [hv], e2, k _ _ H rfl (.flat o_str)⟩, fun d hd => by rw [hd]; exact q⟩) he) (he := he)
/-- sum of the script's ints -/
theorem reps_ints {K : PySem.W.Frag} {H : Hp} : ∀ {ns : List Int} {vs : List V}, RepRs K H (ns.map D.int) vs → vs = ns.map V.int
  | [], _, h => by rw [List.map_nil] at h; unfold RepRs at h; exact h
  | n :: ns, _, h => by
    rw [List.map_cons] at h
    unfold RepRs at h
    obtain ⟨w, ws, rfl, h1, h2⟩ := h
    rw [rep_int] at h1
    rw [h1, reps_ints h2]
    rfl
theorem ev_sum {p : Pos} (hc : X.calm = true) (hg : Gl X "sum") (hm : X.mg "sum" = none) (h : EV X e ss ts fun s r => ∃ ns : List Int, (r.is (.lst (ns.map D.int)) ∨ r.is (.fz (ns.map D.int))) ∧ Φ s (.own (.int ns.sum)))
    (he : starEach [e] X.env = (false, eval e X.env) :: starEach [] X.env := by rfl) : EV X (.Call (.Name "sum" p) [e] [] pos) ss ts Φ :=
  ev_callB (cr_sum hc) hg hm (by decide +kernel) (av_cons (h.imp fun s r ⟨ns, e1, q⟩ => av_nil (by
    have go : ∀ d, d = .lst (ns.map D.int) ∨ d = .fz (ns.map D.int) → r.is d → ∃ ds P, isAll [r] ds ∧ CallD X.K (rSum X.K) ds P ∧ ∀ d, P d → Φ s (.own d) := fun d hd e1 => by
      have e2 : d.seqL = some (ns.map D.int) := by rcases hd with rfl | rfl <;> rfl
      refine ⟨[d], fun d => d = .int ns.sum, ⟨e1, trivial⟩, fun H vs Q rr k => ?_, fun d hd => by rw [hd]; exact q⟩
      obtain ⟨v, rfl, hv⟩ := reps1 rr
      rcases hd with rfl | rfl
      · unfold RepR at hv
        obtain ⟨a, ws, rfl, h1, h2⟩ := hv
        refine ⟨a, ns, rfl, ?_, k _ _ H rfl (.flat o_int)⟩
        rw [← reps_ints h2]
        exact SqL.of h1
      · unfold RepR at hv
        obtain ⟨a, ws, rfl, h1, h2⟩ := hv
        refine ⟨a, ns, rfl, ?_, k _ _ H rfl (.flat o_int)⟩
        rw [← reps_ints h2]
        exact h1.sql
    rcases e1 with e1 | e1
    · exact go _ (.inl rfl) e1
    · exact go _ (.inr rfl) e1)) he) (he := he)
/-- sorted of texts, of ints (below 64) -/
theorem reps_strs {K : PySem.W.Frag} {H : Hp} : ∀ {ns : List Str} {vs : List V}, RepRs K H (ns.map D.str) vs → vs = ns.map V.str
  | [], _, h => by rw [List.map_nil] at h; unfold RepRs at h; exact h
  | n :: ns, _, h => by
    rw [List.map_cons] at h
    unfold RepRs at h
    obtain ⟨w, ws, rfl, h1, h2⟩ := h
    rw [rep_str] at h1
    rw [h1, reps_strs h2]
    rfl
theorem repOs_flat {K : PySem.W.Frag} {H : Hp} {ds : List D} {vs : List V} (h : RepRs K H ds vs) (f : D.flats ds = true) : RepOs K H ds vs [] := RepRs.flatO h f
theorem reps_ofStrs {K : PySem.W.Frag} {H : Hp} : ∀ (ns : List Str), RepOs K H (ns.map D.str) (ns.map V.str) []
  | [] => by unfold RepOs; exact ⟨rfl, rfl⟩
  | n :: ns => by
    rw [List.map_cons, List.map_cons]
    unfold RepOs
    exact ⟨_, _, [], [], rfl, rfl, o_str, reps_ofStrs ns⟩
theorem reps_ofInts {K : PySem.W.Frag} {H : Hp} : ∀ (ns : List Int), RepOs K H (ns.map D.int) (ns.map V.int) []
  | [] => by unfold RepOs; exact ⟨rfl, rfl⟩
  | n :: ns => by
    rw [List.map_cons, List.map_cons]
    unfold RepOs
    exact ⟨_, _, [], [], rfl, rfl, o_int, reps_ofInts ns⟩
/-- a new list of flat items -/
theorem New.lst {K : PySem.W.Frag} {H : Hp} {p : Addr} {vs : List V} {ds : List D} (hp : H p = none) (h : ∀ H, RepOs K H ds vs []) : New K H (upd H p (.lst vs)) (.ref p) (.lst ds) :=
  ⟨Ex.new hp, [p], by unfold RepO; exact ⟨p, vs, [], rfl, upd_same, rfl, h _⟩, by simp, fun a ha => by rw [List.mem_singleton.mp ha]; exact hp⟩
/-- .. of items that stood -/
theorem New.lstF {K : PySem.W.Frag} {H : Hp} {p : Addr} {vs : List V} {ds : List D} (hp : H p = none) (h : RepOs K H ds vs []) : New K H (upd H p (.lst vs)) (.ref p) (.lst ds) :=
  ⟨Ex.new hp, [p], by unfold RepO; exact ⟨p, vs, [], rfl, upd_same, rfl, h.frame (Ex.new hp).tk fun _ z => nomatch z⟩, by simp, fun a ha => by rw [List.mem_singleton.mp ha]; exact hp⟩
theorem ev_sortedS {p : Pos} (hg : Gl X "sorted") (hm : X.mg "sorted" = none) (h : EV X e ss ts fun s r => ∃ ns : List Str, r.is (.lst (ns.map D.str)) ∧ ns.length < 64 ∧ ∀ ys : List Str, ys.Perm ns → sortedS ys = true → Φ s (.own (.lst (ys.map D.str))))
    (he : starEach [e] X.env = (false, eval e X.env) :: starEach [] X.env := by rfl) : EV X (.Call (.Name "sorted" p) [e] [] pos) ss ts Φ :=
  ev_callB cr_sortedS hg hm (by decide +kernel) (av_cons (h.imp fun s r ⟨ns, e1, e2, q⟩ => av_nil ⟨[.lst (ns.map D.str)], fun d => ∃ ys : List Str, ys.Perm ns ∧ sortedS ys = true ∧ d = .lst (ys.map D.str), ⟨e1, trivial⟩, fun H vs Q rr k => by
    obtain ⟨v, rfl, hv⟩ := reps1 rr
    unfold RepR at hv
    obtain ⟨a, ws, rfl, h1, h2⟩ := hv
    refine ⟨a, ns, rfl, ?_, e2, fun ys p hp hs hn => k _ _ _ ⟨ys, hp, hs, rfl⟩ (.lst hn fun H => reps_ofStrs ys)⟩
    rw [← reps_strs h2]
    exact SqL.of h1, fun d ⟨ys, h1, h2, hd⟩ => by rw [hd]; exact q ys h1 h2⟩) he) (he := he)

/-! ### methods of built-in types -/
def MtD (K : PySem.W.Frag) (T : String) (r : V → List V → Hp → VK → Prop) (d0 : D) (ds : List D) (P : D → Prop) : Prop := ∀ H v vs Q, RepR K H d0 v → RepRs K H ds vs → (∀ d w H', P d → New K H H' w d → Q w H') → r v vs H Q
theorem ev_bm {id T : String} {name : Str} {r : V → List V → Hp → VK → Prop} (pa : PlainAttrs T) (slot : PySem.Slot T name id) (hty : typeOf (.builtin id) = pure (.type "method_descriptor")) (hm : MtR X id r)
    (h : EV X o ss ts fun s0 r0 => ∃ d0, r0.is d0 ∧ (∀ H v, RepR X.K H d0 v → tyV X.K T v H) ∧ AV X (e :: es) s0 (r0 :: ts) fun s rs => ∃ ds P, isAll rs ds ∧ MtD X.K T r d0 ds P ∧ ∀ d, P d → Φ s (.own d))
    (hbase : attributeBase o name X.env (eval o X.env) = eval o X.env := by rfl)
    (hfew : ((backTo pos (starEach (e :: es) X.env)).all (fun x => !x.1) && (backToKw pos (keywordEach [] X.env)).all (fun x => x.1.isSome)
      && decide ((e :: es).length + ([] : List Keyword).length + (if ([] : List Keyword).isEmpty then 0 else 1) < 30)) = true := by rfl)
    (hline : (apos.endLine == pos.line) = true := by rfl) (hs : starEach (e :: es) X.env = (false, eval e X.env) :: starEach es X.env := by rfl) (hplain : (backTo pos (starEach es X.env)).any (·.1) = false := by rfl) :
    EV X (.Call (.Attribute o name apos) (e :: es) [] pos) ss ts Φ := fun m B σ tv H Q hm' hh kk => by
  refine toE (pe_bm pa slot hty hm pe_w pa_w hbase hfew hline hs hplain) ?_
  refine h m B σ tv H _ hm' hh fun s0 r0 v H1 ⟨d0, e0, ty, h2⟩ hh1 => ?_
  refine ⟨ty H1 v (hh1.top e0), ?_⟩
  refine h2 m B σ (v :: tv) H1 _ hm'.up hh1 fun s rs vs H2 ⟨ds, P, ia, md, q⟩ l1 l2 hh2 => ?_
  have hp := hh2.popA l1 hm'.up
  refine md H2 v vs Q (hp.top e0) (hh2.argsOf l1 ia hm'.up) fun d w H3 hP n => ?_
  exact kk s _ w H3 (q d hP) ((hp.pop hm').new n)
theorem ty_str {K : PySem.W.Frag} {x : Str} : ∀ H v, RepR K H (.str x) v → tyV K "str" v H := fun H v h => by
  rw [rep_str] at h
  subst h
  exact rfl
/-- text.count(text) -/
theorem ev_count (h : EV X o ss ts fun s0 r0 => ∃ x, r0.is (.str x) ∧ EV X e s0 (r0 :: ts) fun s r => ∃ y, r.is (.str y) ∧ Φ s (.own (.int (Txt.count x y))))
    (hbase : attributeBase o "count" X.env (eval o X.env) = eval o X.env := by rfl)
    (hfew : ((backTo pos (starEach [e] X.env)).all (fun x => !x.1) && (backToKw pos (keywordEach [] X.env)).all (fun x => x.1.isSome)
      && decide ([e].length + ([] : List Keyword).length + (if ([] : List Keyword).isEmpty then 0 else 1) < 30)) = true := by rfl)
    (hline : (apos.endLine == pos.line) = true := by rfl) (hs : starEach [e] X.env = (false, eval e X.env) :: starEach [] X.env := by rfl) (hplain : (backTo pos (starEach [] X.env)).any (·.1) = false := by rfl) :
    EV X (.Call (.Attribute o "count" apos) [e] [] pos) ss ts Φ :=
  ev_bm (T := "str") PySem.F.plainAttrs_str PySem.F.slot_str_count PySem.F.type_str_count mt_count (h.imp fun s0 r0 ⟨x, e0, h2⟩ => ⟨_, e0, ty_str, av_cons (h2.imp fun s r ⟨y, e1, q⟩ => av_nil ⟨[.str y], fun d => d = .int (Txt.count x y), ⟨e1, trivial⟩, fun H v vs Q r1 r2 k => by
    obtain ⟨w, rfl, hw⟩ := reps1 r2
    rw [rep_str] at r1 hw
    exact ⟨x, y, r1, by rw [hw], k _ _ H rfl (.flat o_int)⟩, fun d hd => by rw [hd]; exact q⟩) hs⟩) hbase hfew hline hs hplain

/-! ### lists that change -/
section
variable {K : PySem.W.Frag} {m : Nat → Prop} {B H : Hp} {σ : List (Option V)} {tv : List V} {v : V} {fp : Own → List Addr} {d : D} {l : List D} {i : Nat}
/-- slot i holds the list a -/
theorem HeldF.lst (h : HeldF K m B H fp σ ss tv ts) (hs : ss[i]? = some (.own (.lst l))) : ∃ a vs G, σ[i]? = some (some (.ref a)) ∧ H a = some (.lst vs) ∧ fp (.v i) = a :: G ∧ RepOs K H l vs G := by
  obtain ⟨v, e1, e2⟩ := h.var i _ hs
  unfold RepO at e2
  obtain ⟨a, vs, G, rfl, h1, h2, h3⟩ := e2
  refine ⟨a, vs, G, ?_, h1, h2, h3⟩
  cases e : σ[i]? with
  | none => rw [e] at e1; cases e1
  | some y => rw [e] at e1; have z : y = some (.ref a) := e1; rw [z]
/-- the list of slot i has other items: those of G', out of its own and of nobody's -/
theorem HeldF.relist (h : HeldF K m B H fp σ ss tv ts) (hi : i < ss.length) {a : Addr} {vs vs' : List V} {G G' : List Addr} {l' : List D} (hx : σ[i]? = some (some (.ref a))) (ha : H a = some (.lst vs)) (hf : fp (.v i) = a :: G)
    (nw : RepOs K H l' vs' G') (nd : G'.Nodup) (dj : ∀ b ∈ G', b ∈ G ∨ ((∀ o, b ∉ fp o) ∧ B b = none)) (ht : noView (.v i) ts = true) :
    Held K m B (upd H a (.lst vs')) σ ((ss.map (kill (.v i))).set i (.own (.lst l'))) tv ts := by
  have tk : TK H (upd H a (.lst vs')) := TK.upd ha fun z => z
  have n1 := h.nod (.v i)
  rw [hf] at n1
  have n2 := List.nodup_cons.mp n1
  have aG' : a ∉ G' := fun z => by
    rcases dj a z with q | q
    · exact n2.1 q
    · exact q.1 (.v i) (by rw [hf]; exact List.mem_cons_self)
  refine ⟨_, h.change (v := .ref a) (F' := a :: G') (d' := .lst l') (by rw [hx]; rfl) hi tk (fun b o hb e => ?_) ?_ (List.nodup_cons.mpr ⟨aG', nd⟩) (fun b hb => ?_) ht⟩
  · rw [upd_ne (fun z => hb (by rw [z, hf]; exact List.mem_cons_self))]
    exact e
  · unfold RepO
    exact ⟨a, vs', G', rfl, upd_same, rfl, nw.frame tk fun b hb => upd_ne fun z => aG' (z ▸ hb)⟩
  · rcases List.mem_cons.mp hb with rfl | hb
    · exact .inl (by rw [hf]; exact List.mem_cons_self)
    · rcases dj b hb with q | q
      · exact .inl (by rw [hf]; exact List.mem_cons_of_mem _ q)
      · exact .inr q
end
theorem noView_push {o : Own} {r : Slot} {l : List Slot} (h : noView o l = true) (n : ∀ d, r ≠ .view o d) : noView o (r :: l) = true := by
  cases r with
  | no => exact h
  | own _ => exact h
  | par _ => exact h
  | view o' d =>
    unfold noView
    rw [Bool.and_eq_true, decide_eq_true_eq]
    exact ⟨fun z => n d (by rw [z]), h⟩
/-- x.append(e), x a name of an owned list -/
theorem ev_append {i : Nat} {x : Str} {px : Pos} {l0 : List D} (hN : X.N[i]? = some x) (hv : Vis X.env.scope x) (h0 : ss[i]? = some (.own (.lst l0))) (hv1 : noView (.v i) ts = true)
    (h : EV X e ss ts fun s r => ∃ l d, s[i]? = some (.own (.lst l)) ∧ r = .own d ∧ l.length < 1000000 ∧ Φ ((s.map (kill (.v i))).set i (.own (.lst (l ++ [d])))) (.own .non))
    (hd : (x == ("__debug__" : Str)) = false := by decide) (hcd : (x == ("__classdict__" : Str)) = false := by decide)
    (hbase : attributeBase (.Name x px) "append" X.env (eval (.Name x px) X.env) = eval (.Name x px) X.env := by rfl)
    (hfew : ((backTo pos (starEach [e] X.env)).all (fun x => !x.1) && (backToKw pos (keywordEach [] X.env)).all (fun x => x.1.isSome)
      && decide ([e].length + ([] : List Keyword).length + (if ([] : List Keyword).isEmpty then 0 else 1) < 30)) = true := by rfl)
    (hline : (apos.endLine == pos.line) = true := by rfl) (hs : starEach [e] X.env = (false, eval e X.env) :: starEach [] X.env := by rfl) (hplain : (backTo pos (starEach [] X.env)).any (·.1) = false := by rfl) :
    EV X (.Call (.Attribute (.Name x px) "append" apos) [e] [] pos) ss ts Φ := fun m B σ tv H Q hm hh kk => by
  refine toE (pe_bm PySem.F.plainAttrs_list PySem.F.slot_list_append PySem.F.type_list_append mt_append (pe_var hN hv hd hcd) (pa_cons pe_w pa_nil hs) hbase hfew hline hs hplain) ?_
  obtain ⟨fp, hf⟩ := id hh
  obtain ⟨a, vs, G, x1, a1, _, _⟩ := hf.lst h0
  refine ⟨.ref a, x1, .inl ⟨rfl, vs, SqL.of a1⟩, ?_⟩
  refine h m B σ tv H _ hm hh fun s r y H1 ⟨l, d, hi, er, hl, q⟩ ⟨fp1, h1⟩ => ?_
  subst er
  obtain ⟨fp2, F2, h2, s2, r2, n2, o2, b2, _⟩ := h1.take hm
  obtain ⟨a', vs', G', x2, a2, f2, g2⟩ := h2.lst hi
  rw [x1] at x2
  cases x2
  have lv := g2.reps.length
  refine ⟨a, vs', y, rfl, rfl, a2, Nat.lt_trans (by omega : vs'.length < 1000000) (by decide), ?_⟩
  have nd := h2.nod (.v i)
  rw [f2] at nd
  have nd2 := (List.nodup_cons.mp nd).2
  have h3 := h2.relist (getElem?_lt hi) x1 a2 f2 (g2.append (RepOs.one r2)) (List.nodup_append.mpr ⟨nd2, n2, fun b hb c hc z => by
    subst z
    exact o2 b hc (.v i) (by rw [f2]; exact List.mem_cons_of_mem _ hb)⟩) (fun b hb => (List.mem_append.mp hb).elim .inl fun z => .inr ⟨o2 b z, b2 b z⟩) hv1
  exact kk _ _ .non _ q (h3.pushF o_non)
/-- x.extend(e), e an owned list just made -/
theorem ev_extend {i : Nat} {x : Str} {px : Pos} {l0 : List D} (hN : X.N[i]? = some x) (hv : Vis X.env.scope x) (h0 : ss[i]? = some (.own (.lst l0))) (hv1 : noView (.v i) ts = true)
    (h : EV X e ss ts fun s r => ∃ l k, s[i]? = some (.own (.lst l)) ∧ r = .own (.lst k) ∧ l.length + k.length ≤ 1000000 ∧ Φ ((s.map (kill (.v i))).set i (.own (.lst (l ++ k)))) (.own .non))
    (hd : (x == ("__debug__" : Str)) = false := by decide) (hcd : (x == ("__classdict__" : Str)) = false := by decide)
    (hbase : attributeBase (.Name x px) "extend" X.env (eval (.Name x px) X.env) = eval (.Name x px) X.env := by rfl)
    (hfew : ((backTo pos (starEach [e] X.env)).all (fun x => !x.1) && (backToKw pos (keywordEach [] X.env)).all (fun x => x.1.isSome)
      && decide ([e].length + ([] : List Keyword).length + (if ([] : List Keyword).isEmpty then 0 else 1) < 30)) = true := by rfl)
    (hline : (apos.endLine == pos.line) = true := by rfl) (hs : starEach [e] X.env = (false, eval e X.env) :: starEach [] X.env := by rfl) (hplain : (backTo pos (starEach [] X.env)).any (·.1) = false := by rfl) :
    EV X (.Call (.Attribute (.Name x px) "extend" apos) [e] [] pos) ss ts Φ := fun m B σ tv H Q hm hh kk => by
  refine toE (pe_bm PySem.F.plainAttrs_list PySem.F.slot_list_extend PySem.F.type_list_extend mt_extend (pe_var hN hv hd hcd) (pa_cons pe_w pa_nil hs) hbase hfew hline hs hplain) ?_
  obtain ⟨fp, hf⟩ := id hh
  obtain ⟨a, vs, G, x1, a1, _, _⟩ := hf.lst h0
  refine ⟨.ref a, x1, .inl ⟨rfl, vs, SqL.of a1⟩, ?_⟩
  refine h m B σ tv H _ hm hh fun s r y H1 ⟨l, k, hi, er, hl, q⟩ ⟨fp1, h1⟩ => ?_
  subst er
  obtain ⟨fp2, F2, h2, s2, r2, n2, o2, b2, _⟩ := h1.take hm
  obtain ⟨a', vs', G', x2, a2, f2, g2⟩ := h2.lst hi
  rw [x1] at x2
  cases x2
  unfold RepO at r2
  obtain ⟨b, ws, G2, rfl, a3, f3, g3⟩ := r2
  subst f3
  have lv := g2.reps.length
  have lw := g3.reps.length
  refine ⟨a, b, vs', ws, rfl, rfl, a2, a3, Nat.le_trans (by omega : vs'.length + ws.length ≤ 1000000) (by decide), ?_⟩
  have nd := h2.nod (.v i)
  rw [f2] at nd
  have nd2 := (List.nodup_cons.mp nd).2
  have h3 := h2.relist (getElem?_lt hi) x1 a2 f2 (g2.append g3) (List.nodup_append.mpr ⟨nd2, (List.nodup_cons.mp n2).2, fun b' hb c hc z => by
    subst z
    exact o2 b' (List.mem_cons_of_mem _ hc) (.v i) (by rw [f2]; exact List.mem_cons_of_mem _ hb)⟩) (fun b' hb => (List.mem_append.mp hb).elim .inl fun z => .inr ⟨o2 b' (List.mem_cons_of_mem _ z), b2 b' (List.mem_cons_of_mem _ z)⟩) hv1
  exact kk _ _ .non _ q (h3.pushF o_non)
end
end DL
/-! The data layer, part 7: rules whose kind is told by the operands. -/
namespace DL
open PySem PySem.Spec PyProof.Rows L2

mutual
/-- plain data, at most n deep -/
def D.pl : Nat → D → Bool
  | _, .non => true
  | _, .bl _ => false
  | _, .int _ => true
  | _, .str x => PyData.strOk x
  | _, .raw _ => false
  | _, .fz _ => false
  | _, .ins _ _ _ => false
  | _, .exc _ _ _ => false
  | 0, .tup _ => false
  | 0, .lst _ => false
  | n + 1, .tup l => D.pls n l
  | n + 1, .lst l => D.pls n l
def D.pls : Nat → List D → Bool
  | _, [] => true
  | n, d :: ds => D.pl n d && D.pls n ds
end
mutual
theorem D.pl_py : ∀ {n : Nat} {d : D}, d.pl n = true → ∃ p, d.py = some p ∧ p.canLay0 = true ∧ p.depth ≤ n
  | _, .non, _ => ⟨.none, by unfold D.py; rfl, by unfold PyData.canLay0; rfl, by unfold PyData.depth; exact Nat.zero_le _⟩
  | _, .bl _, h => by unfold D.pl at h; cases h
  | _, .int i, _ => ⟨.int i, by unfold D.py; rfl, by unfold PyData.canLay0; rfl, by unfold PyData.depth; exact Nat.zero_le _⟩
  | _, .str x, h => ⟨.str x, by unfold D.py; rfl, by unfold D.pl at h; unfold PyData.canLay0; exact h, by unfold PyData.depth; exact Nat.zero_le _⟩
  | _, .raw _, h => by unfold D.pl at h; cases h
  | _, .fz _, h => by unfold D.pl at h; cases h
  | _, .ins _ _ _, h => by unfold D.pl at h; cases h
  | _, .exc _ _ _, h => by unfold D.pl at h; cases h
  | 0, .tup _, h => by unfold D.pl at h; cases h
  | 0, .lst _, h => by unfold D.pl at h; cases h
  | n + 1, .tup l, h => by
    unfold D.pl at h
    obtain ⟨ps, e1, e2, e3⟩ := D.pls_py h
    exact ⟨.tuple ps, by unfold D.py; rw [e1]; rfl, by unfold PyData.canLay0; exact e2, by unfold PyData.depth; omega⟩
  | n + 1, .lst l, h => by
    unfold D.pl at h
    obtain ⟨ps, e1, e2, e3⟩ := D.pls_py h
    exact ⟨.list ps, by unfold D.py; rw [e1]; rfl, by unfold PyData.canLay0; exact e2, by unfold PyData.depth; omega⟩
theorem D.pls_py : ∀ {n : Nat} {ds : List D}, D.pls n ds = true → ∃ ps, D.pys ds = some ps ∧ PyData.canLayAll0 ps = true ∧ PyData.depthAll ps ≤ n
  | _, [], _ => ⟨[], by unfold D.pys; rfl, by unfold PyData.canLayAll0; rfl, by unfold PyData.depthAll; exact Nat.zero_le _⟩
  | n, d :: ds, h => by
    unfold D.pls at h
    rw [Bool.and_eq_true] at h
    obtain ⟨p, e1, e2, e3⟩ := D.pl_py h.1
    obtain ⟨ps, f1, f2, f3⟩ := D.pls_py h.2
    refine ⟨p :: ps, by unfold D.pys; rw [e1, f1], by unfold PyData.canLayAll0; rw [e2, f2]; rfl, by unfold PyData.depthAll; omega⟩
end
noncomputable def deq (x y : D) : Bool := @decide (x = y) (Classical.propDecidable _)
theorem deq_iff {x y : D} : deq x y = true ↔ x = y := by
  unfold deq
  exact ⟨fun h => @of_decide_eq_true _ (Classical.propDecidable _) h, fun h => @decide_eq_true _ (Classical.propDecidable _) h⟩
theorem deq_self {x : D} : deq x x = true := deq_iff.mpr rfl
theorem deq_of {x y : D} (h : x = y) : deq x y = true := deq_iff.mpr h
theorem deq_not {x y : D} (h : x ≠ y) : deq x y = false := by
  cases e : deq x y with
  | false => rfl
  | true => exact absurd (deq_iff.mp e) h
mutual
theorem D.eqv_iff : ∀ {n m : Nat} {d e : D} {p q : PyData}, d.pl n = true → e.pl m = true → d.py = some p → e.py = some q → (PyData.eqv p q = true ↔ d = e)
  | n, m, d, e, p, q, h1, h2, h3, h4 => by
    cases d with
    | bl _ => unfold D.pl at h1; cases h1
    | raw _ => unfold D.pl at h1; cases h1
    | fz _ => unfold D.pl at h1; cases h1
    | ins _ _ _ => unfold D.pl at h1; cases h1
    | exc _ _ _ => unfold D.pl at h1; cases h1
    | non =>
      unfold D.py at h3; cases h3
      cases e with
      | bl _ => unfold D.pl at h2; cases h2
      | raw _ => unfold D.pl at h2; cases h2
      | fz _ => unfold D.pl at h2; cases h2
      | ins _ _ _ => unfold D.pl at h2; cases h2
      | exc _ _ _ => unfold D.pl at h2; cases h2
      | non => unfold D.py at h4; cases h4; simp [PyData.eqv]
      | int _ => unfold D.py at h4; cases h4; simp [PyData.eqv]
      | str _ => unfold D.py at h4; cases h4; simp [PyData.eqv]
      | tup _ => unfold D.py at h4; obtain ⟨_, _, rfl⟩ := Option.map_eq_some_iff.mp h4; simp [PyData.eqv]
      | lst _ => unfold D.py at h4; obtain ⟨_, _, rfl⟩ := Option.map_eq_some_iff.mp h4; simp [PyData.eqv]
    | int i =>
      unfold D.py at h3; cases h3
      cases e with
      | bl _ => unfold D.pl at h2; cases h2
      | raw _ => unfold D.pl at h2; cases h2
      | fz _ => unfold D.pl at h2; cases h2
      | ins _ _ _ => unfold D.pl at h2; cases h2
      | exc _ _ _ => unfold D.pl at h2; cases h2
      | non => unfold D.py at h4; cases h4; simp [PyData.eqv]
      | int _ => unfold D.py at h4; cases h4; simp [PyData.eqv]
      | str _ => unfold D.py at h4; cases h4; simp [PyData.eqv]
      | tup _ => unfold D.py at h4; obtain ⟨_, _, rfl⟩ := Option.map_eq_some_iff.mp h4; simp [PyData.eqv]
      | lst _ => unfold D.py at h4; obtain ⟨_, _, rfl⟩ := Option.map_eq_some_iff.mp h4; simp [PyData.eqv]
    | str i =>
      unfold D.py at h3; cases h3
      cases e with
      | bl _ => unfold D.pl at h2; cases h2
      | raw _ => unfold D.pl at h2; cases h2
      | fz _ => unfold D.pl at h2; cases h2
      | ins _ _ _ => unfold D.pl at h2; cases h2
      | exc _ _ _ => unfold D.pl at h2; cases h2
      | non => unfold D.py at h4; cases h4; simp [PyData.eqv]
      | int _ => unfold D.py at h4; cases h4; simp [PyData.eqv]
      | str _ => unfold D.py at h4; cases h4; simp [PyData.eqv]
      | tup _ => unfold D.py at h4; obtain ⟨_, _, rfl⟩ := Option.map_eq_some_iff.mp h4; simp [PyData.eqv]
      | lst _ => unfold D.py at h4; obtain ⟨_, _, rfl⟩ := Option.map_eq_some_iff.mp h4; simp [PyData.eqv]
    | tup l =>
      unfold D.py at h3; obtain ⟨ps, hp, rfl⟩ := Option.map_eq_some_iff.mp h3
      cases n with
      | zero => unfold D.pl at h1; cases h1
      | succ n =>
        unfold D.pl at h1
        cases e with
        | bl _ => unfold D.pl at h2; cases h2
        | raw _ => unfold D.pl at h2; cases h2
        | fz _ => unfold D.pl at h2; cases h2
        | ins _ _ _ => unfold D.pl at h2; cases h2
        | exc _ _ _ => unfold D.pl at h2; cases h2
        | non => unfold D.py at h4; cases h4; simp [PyData.eqv]
        | int _ => unfold D.py at h4; cases h4; simp [PyData.eqv]
        | str _ => unfold D.py at h4; cases h4; simp [PyData.eqv]
        | lst _ => unfold D.py at h4; obtain ⟨_, _, rfl⟩ := Option.map_eq_some_iff.mp h4; simp [PyData.eqv]
        | tup k =>
          cases m with
          | zero => unfold D.pl at h2; cases h2
          | succ m =>
            unfold D.pl at h2
            unfold D.py at h4
            obtain ⟨qs, hq, rfl⟩ := Option.map_eq_some_iff.mp h4
            have := D.eqvs_iff h1 h2 hp hq
            simpa [PyData.eqv] using this
    | lst l =>
      unfold D.py at h3; obtain ⟨ps, hp, rfl⟩ := Option.map_eq_some_iff.mp h3
      cases n with
      | zero => unfold D.pl at h1; cases h1
      | succ n =>
        unfold D.pl at h1
        cases e with
        | bl _ => unfold D.pl at h2; cases h2
        | raw _ => unfold D.pl at h2; cases h2
        | fz _ => unfold D.pl at h2; cases h2
        | ins _ _ _ => unfold D.pl at h2; cases h2
        | exc _ _ _ => unfold D.pl at h2; cases h2
        | non => unfold D.py at h4; cases h4; simp [PyData.eqv]
        | int _ => unfold D.py at h4; cases h4; simp [PyData.eqv]
        | str _ => unfold D.py at h4; cases h4; simp [PyData.eqv]
        | tup _ => unfold D.py at h4; obtain ⟨_, _, rfl⟩ := Option.map_eq_some_iff.mp h4; simp [PyData.eqv]
        | lst k =>
          cases m with
          | zero => unfold D.pl at h2; cases h2
          | succ m =>
            unfold D.pl at h2
            unfold D.py at h4
            obtain ⟨qs, hq, rfl⟩ := Option.map_eq_some_iff.mp h4
            have := D.eqvs_iff h1 h2 hp hq
            simpa [PyData.eqv] using this
  termination_by n _ _ _ _ _ _ _ _ _ => (n, 0)
theorem D.eqvs_iff : ∀ {n m : Nat} {ds es : List D} {ps qs : List PyData}, D.pls n ds = true → D.pls m es = true → D.pys ds = some ps → D.pys es = some qs → (PyData.eqvAll ps qs = true ↔ ds = es)
  | n, m, [], [], ps, qs, _, _, h3, h4 => by unfold D.pys at h3 h4; cases h3; cases h4; simp [PyData.eqvAll]
  | n, m, [], e :: es, ps, qs, _, h2, h3, h4 => by
    unfold D.pys at h3; cases h3
    unfold D.pys at h4
    split at h4
    · cases h4; simp [PyData.eqvAll]
    · cases h4
  | n, m, d :: ds, [], ps, qs, h1, _, h3, h4 => by
    unfold D.pys at h4; cases h4
    unfold D.pys at h3
    split at h3
    · cases h3; simp [PyData.eqvAll]
    · cases h3
  | n, m, d :: ds, e :: es, ps, qs, h1, h2, h3, h4 => by
    unfold D.pls at h1 h2
    rw [Bool.and_eq_true] at h1 h2
    unfold D.pys at h3 h4
    split at h3
    · rename_i p ps' p1 p2
      cases h3
      split at h4
      · rename_i q qs' q1 q2
        cases h4
        have a := D.eqv_iff h1.1 h2.1 p1 q1
        have b := D.eqvs_iff h1.2 h2.2 p2 q2
        simp only [PyData.eqvAll, Bool.and_eq_true, a, b, List.cons.injEq]
      · cases h4
    · cases h3
  termination_by n _ ds _ _ _ _ _ _ _ => (n, ds.length + 1)
end
theorem D.eqv_eq {n m : Nat} {d e : D} {p q : PyData} (h1 : d.pl n = true) (h2 : e.pl m = true) (h3 : d.py = some p) (h4 : e.py = some q) : PyData.eqv p q = deq d e := by
  have := D.eqv_iff h1 h2 h3 h4
  cases e1 : PyData.eqv p q with
  | true => exact (deq_of (this.mp e1)).symm
  | false => exact (deq_not fun z => by rw [this.mpr z] at e1; cases e1).symm
theorem D.shaped_of {n : Nat} {d : D} {p : PyData} (h : d.pl n = true) (hn : n ≤ 64) (e : d.py = some p) : SeqAt.shaped p = true := by
  obtain ⟨p', e1, e2, e3⟩ := D.pl_py h
  rw [e] at e1
  cases e1
  unfold SeqAt.shaped
  rw [e2, decide_eq_true (Nat.le_trans e3 hn)]
  rfl

section
variable {X : Cx} {fx : List Nat} {ss ts : List Slot} {Φ : List Slot → Slot → Prop} {e a b c tg it o : Expr} {es : List Expr} {pos p2 apos : Pos} {E : DE} {Θ : List Slot → Bool → Prop}
/-- flat data from outside, as owned -/
theorem ev_varPF {i : Nat} {x : Str} {d : D} (hN : X.N[i]? = some x) (hv : Vis X.env.scope x) (hs : ss[i]? = some (.par d)) (hf : d.flat = true) (q : Φ ss (.own d)) (hd : (x == ("__debug__" : Str)) = false := by decide) (hcd : (x == ("__classdict__" : Str)) = false := by decide) :
    EV X (.Name x pos) ss ts Φ := fun m B σ tv H Q hm h k => by
  refine toE (pe_var hN hv hd hcd) ?_
  obtain ⟨fp, h⟩ := h
  obtain ⟨v, e1, e2⟩ := h.var i _ hs
  have ex : σ[i]? = some (some v) := by
    cases e : σ[i]? with
    | none => rw [e] at e1; cases e1
    | some y => rw [e] at e1; have z : y = some v := e1; rw [z]
  exact ⟨v, ex, k ss _ v H q ⟨_, h.pushF ((e2.mono h.base).flatO hf)⟩⟩
theorem tv_eqP (n : Nat) (hn : n ≤ 64) (hu : X.A.units + 64 < cLine) (h : EV X a ss ts fun s1 r1 => EV X b s1 (r1 :: ts) fun s2 r2 => ∃ d1 d2, r1.is d1 ∧ r2.is d2 ∧ d1.pl n = true ∧ d2.pl n = true ∧ Θ s2 (deq d1 d2)) : TV X (.Compare a [.Eq] [b] pos) ss ts Θ :=
  tv_eqD hu (h.imp fun s1 r1 h1 => h1.imp fun s2 r2 ⟨d1, d2, e1, e2, p1, p2, q⟩ => by
    obtain ⟨x, x1, x2, x3⟩ := D.pl_py p1
    obtain ⟨y, y1, y2, y3⟩ := D.pl_py p2
    exact ⟨d1, d2, x, y, e1, e2, x1, y1, D.shaped_of p1 hn x1, D.shaped_of p2 hn y1, by rw [D.eqv_eq p1 p2 x1 y1]; exact q⟩)
theorem tv_neP (n : Nat) (hn : n ≤ 64) (hu : X.A.units + 64 < cLine) (h : EV X a ss ts fun s1 r1 => EV X b s1 (r1 :: ts) fun s2 r2 => ∃ d1 d2, r1.is d1 ∧ r2.is d2 ∧ d1.pl n = true ∧ d2.pl n = true ∧ Θ s2 (!deq d1 d2)) : TV X (.Compare a [.NotEq] [b] pos) ss ts Θ :=
  tv_neD hu (h.imp fun s1 r1 h1 => h1.imp fun s2 r2 ⟨d1, d2, e1, e2, p1, p2, q⟩ => by
    obtain ⟨x, x1, x2, x3⟩ := D.pl_py p1
    obtain ⟨y, y1, y2, y3⟩ := D.pl_py p2
    exact ⟨d1, d2, x, y, e1, e2, x1, y1, D.shaped_of p1 hn x1, D.shaped_of p2 hn y1, by rw [D.eqv_eq p1 p2 x1 y1]; exact q⟩)
theorem ev_eqP (n : Nat) (hn : n ≤ 64) (hu : X.A.units + 64 < cLine) (h : EV X a ss ts fun s1 r1 => EV X b s1 (r1 :: ts) fun s2 r2 => ∃ d1 d2, r1.is d1 ∧ r2.is d2 ∧ d1.pl n = true ∧ d2.pl n = true ∧ Φ s2 (.own (.bl (deq d1 d2)))) : EV X (.Compare a [.Eq] [b] pos) ss ts Φ :=
  ev_eqD hu (h.imp fun s1 r1 h1 => h1.imp fun s2 r2 ⟨d1, d2, e1, e2, p1, p2, q⟩ => by
    obtain ⟨x, x1, x2, x3⟩ := D.pl_py p1
    obtain ⟨y, y1, y2, y3⟩ := D.pl_py p2
    exact ⟨d1, d2, x, y, e1, e2, x1, y1, D.shaped_of p1 hn x1, D.shaped_of p2 hn y1, by rw [D.eqv_eq p1 p2 x1 y1]; exact q⟩)

/-! ### slots in normal form -/
theorem sv_norm {sts : List Stmt} {ss' : List Slot} (e : ss = ss') (h : SV X fx sts ss' ts E) : SV X fx sts ss ts E := by rw [e]; exact h
theorem s1_norm {st : Stmt} {ss' : List Slot} (e : ss = ss') (h : S1 X fx st ss' ts E) : S1 X fx st ss ts E := by rw [e]; exact h
theorem ev_norm {ss' : List Slot} (e : ss = ss') (h : EV X a ss' ts Φ) : EV X a ss ts Φ := by rw [e]; exact h

/-- slots forgotten -/
theorem sv_forget {sts : List Stmt} (vs : List Nat) (h : SV X fx sts (wipeS vs ss) ts E) : SV X fx sts ss ts E := fun B σ tv H D hh k => h B σ tv H D (hh.other rfl fun _ _ => rfl) k
/-! ### x + y, by the operands -/
def addR (K : PySem.W.Frag) : R2 := fun x y H Q => (∃ i j, x = .int i ∧ y = .int j ∧ Q (.int (i + j)) H) ∨ (∃ i j, x = .str i ∧ y = .str j ∧ i.length + j.length ≤ sizeLine ∧ Q (.str (i ++ j)) H)
theorem op_addR : OpR X (binaryOp .Add) (addR X.K) := by
  intro pins s σ H x y v u Q I rx ry h
  rcases h with h | h
  · exact op_add pins s σ H x y v u Q I rx ry h
  · exact op_add_str pins s σ H x y v u Q I rx ry h
/-- ints or texts -/
theorem ev_addG (h : EV X a ss ts fun s1 r1 => EV X b s1 (r1 :: ts) fun s2 r2 => (∃ i j, r1.is (.int i) ∧ r2.is (.int j) ∧ Φ s2 (.own (.int (i + j)))) ∨ ∃ x y, r1.is (.str x) ∧ r2.is (.str y) ∧ x.length + y.length ≤ 1000000 ∧ Φ s2 (.own (.str (x ++ y)))) : EV X (.BinOp a .Add b pos) ss ts Φ :=
  ev_op2 op_addR (h.imp fun s1 r1 h1 => h1.imp fun s2 r2 hh => by
    rcases hh with ⟨i, j, e1, e2, q⟩ | ⟨i, j, e1, e2, hc, q⟩
    · exact ⟨_, _, _, e1, e2, fun H x y rx ry => ⟨.int (i + j), fun H => o_int, fun Q q => by
        rw [rep_int] at rx ry
        exact .inl ⟨i, j, rx, ry, q⟩⟩, q⟩
    · exact ⟨_, _, _, e1, e2, fun H x y rx ry => ⟨.str (i ++ j), fun H => o_str, fun Q q => by
        rw [rep_str] at rx ry
        exact .inr ⟨i, j, rx, ry, Nat.le_trans hc (by decide), q⟩⟩, q⟩)
/-! ### subscripts -/
/-- o[i] of flat data -/
theorem ev_ix (hs : PlainIx b) (h : EV X a ss ts fun s1 r1 => EV X b s1 (r1 :: ts) fun s2 r2 => ∃ d0 l i d, r1.is d0 ∧ d0.seqL = some l ∧ r2.is (.int i) ∧ atI l i = some d ∧ d.flat = true ∧ Φ s2 (.own d)) : EV X (.Subscript a b pos) ss ts Φ := fun m B σ tv H Q hm hh k => by
  refine toE (pe_ix ix_seq pe_w pe_w hs) ?_
  refine h m B σ tv H _ hm hh fun s1 r1 x H1 h1 hh1 => ?_
  refine h1 m B σ (x :: tv) H1 _ hm.up hh1 fun s2 r2 y H2 ⟨d0, l, i, d, e1, e2, e3, e4, fl, q⟩ hh2 => ?_
  have z1 := hh2.top2 e1
  have z2 := hh2.top e3
  rw [rep_int] at z2
  obtain ⟨p, vs, rfl, sq, rr⟩ := D.seq_rep z1 e2
  have hl := rr.length
  unfold atI at e4
  rw [← hl] at e4
  obtain ⟨j, j1, j2⟩ := Option.bind_eq_some_iff.mp e4
  obtain ⟨w, w1, w2⟩ := rr.get j2
  have e5 : atI vs i = some w := by unfold atI; rw [j1]; exact w1
  have fin := k s2 _ w H2 q (((hh2.pop hm.up).pop hm).pushF (w2.flatO fl))
  rcases sq with sq | sq
  · exact .inl ⟨p, vs, i, w, rfl, z2, sq, e5, fin⟩
  · exact .inr (.inl ⟨p, vs, i, w, rfl, z2, sq, e5, fin⟩)
end
end DL
/-! The data layer, part 8: the rules in short. -/
namespace DL
open PySem PySem.Spec PyProof.Rows L2
section
variable {X : Cx} {fx : List Nat} {ss ts : List Slot} {Φ : List Slot → Slot → Prop} {e a b c tg it o : Expr} {es : List Expr} {pos p2 apos px py : Pos} {E : DE} {Θ : List Slot → Bool → Prop} {x y : Str} {d : D} {ow : Own} {Ψ : List Slot → List Slot → List El → Prop}
/-- the name in slot i: flat data | from outside | lent | owned and lent | given away -/
theorem vF (i : Nat) (q : Φ ss (.own d)) (hs : ss[i]? = some (.own d) := by rfl) (hf : d.flat = true := by rfl) (hN : X.N[i]? = some x := by rfl) (hv : Vis X.env.scope x := by first | exact Or.inl rfl | exact Or.inr (Or.inl rfl) | exact Or.inr (Or.inr rfl)) (hd : (x == ("__debug__" : Str)) = false := by decide) (hcd : (x == ("__classdict__" : Str)) = false := by decide) :
    EV X (.Name x pos) ss ts Φ := ev_var hN hv hs hf q hd hcd
theorem vPF (i : Nat) (q : Φ ss (.own d)) (hs : ss[i]? = some (.par d) := by rfl) (hf : d.flat = true := by rfl) (hN : X.N[i]? = some x := by rfl) (hv : Vis X.env.scope x := by first | exact Or.inl rfl | exact Or.inr (Or.inl rfl) | exact Or.inr (Or.inr rfl)) (hd : (x == ("__debug__" : Str)) = false := by decide) (hcd : (x == ("__classdict__" : Str)) = false := by decide) :
    EV X (.Name x pos) ss ts Φ := ev_varPF hN hv hs hf q hd hcd
theorem vP (i : Nat) (q : Φ ss (.par d)) (hs : ss[i]? = some (.par d) := by rfl) (hN : X.N[i]? = some x := by rfl) (hv : Vis X.env.scope x := by first | exact Or.inl rfl | exact Or.inr (Or.inl rfl) | exact Or.inr (Or.inr rfl)) (hd : (x == ("__debug__" : Str)) = false := by decide) (hcd : (x == ("__classdict__" : Str)) = false := by decide) :
    EV X (.Name x pos) ss ts Φ := ev_varP hN hv hs q hd hcd
theorem vV (i : Nat) (q : Φ ss (.view ow d)) (hs : ss[i]? = some (.view ow d) := by rfl) (hN : X.N[i]? = some x := by rfl) (hv : Vis X.env.scope x := by first | exact Or.inl rfl | exact Or.inr (Or.inl rfl) | exact Or.inr (Or.inr rfl)) (hd : (x == ("__debug__" : Str)) = false := by decide) (hcd : (x == ("__classdict__" : Str)) = false := by decide) :
    EV X (.Name x pos) ss ts Φ := ev_varV hN hv hs q hd hcd
theorem vL (i : Nat) (q : Φ ss (.view (.v i) d)) (hs : ss[i]? = some (.own d) := by rfl) (hN : X.N[i]? = some x := by rfl) (hv : Vis X.env.scope x := by first | exact Or.inl rfl | exact Or.inr (Or.inl rfl) | exact Or.inr (Or.inr rfl)) (hd : (x == ("__debug__" : Str)) = false := by decide) (hcd : (x == ("__classdict__" : Str)) = false := by decide) :
    EV X (.Name x pos) ss ts Φ := ev_varL hN hv hs q hd hcd
theorem vM (i : Nat) (q : Φ ((ss.map (kill (.v i))).set i .no) (.own d)) (hs : ss[i]? = some (.own d) := by rfl) (ht : noView (.v i) ts = true := by rfl) (hN : X.N[i]? = some x := by rfl) (hv : Vis X.env.scope x := by first | exact Or.inl rfl | exact Or.inr (Or.inl rfl) | exact Or.inr (Or.inr rfl)) (hd : (x == ("__debug__" : Str)) = false := by decide) (hcd : (x == ("__classdict__" : Str)) = false := by decide) :
    EV X (.Name x pos) ss ts Φ := ev_varM hN hv hs ht q hd hcd
/-- name = e (slot i) -/
theorem sSet (i : Nat) {pos' : Pos} (hN : X.N.Nodup) (h : EV X e ss ts fun s r => s.length = ss.length ∧ noView (.v i) (r :: ts) = true ∧ E.nx ((s.map (kill (.v i))).set i r)) (hi : X.N[i]? = some x := by rfl) (hx : Loc X.env.scope x := by first | exact Or.inl rfl | exact Or.inr rfl) (hfx : i ∉ fx := by decide) (hil : (ss[i]?).isSome = true := by rfl)
    (hs : swapsWith e (some (.Name x pos')) pos.line X.env = pure false := by rfl) (hf : X.fn x = true ∨ X.env.scope.names.lookup x = some .local := by first | exact .inl rfl | exact .inr rfl) : S1 X fx (.Assign [.Name x pos'] e pos) ss ts E :=
  s1_set hN hi hx hfx hil h hs hf
/-- name = [..] -/
theorem sSetLc (i : Nat) {elt iter : Expr} {ifs : List Expr} {scope : Scope} {spos : Pos} (own : List (Str × Nat)) (hN : X.N.Nodup) (ok : BlkOk X.N X.env.scope scope own)
    (h : IV X tg iter ss ts fun s1 rs els => ∃ I : Nat → List Slot → List D → Prop, I 0 (wipeS (own.map (·.2)) s1) [] ∧
      (∀ i el s acc, els[i]? = some el → I i s acc → LcTurn X elt tg ifs scope (own.map (·.2)) el s (rs ++ ts) acc (I (i + 1))) ∧
      ∀ s acc, I els.length s acc → s.length = ss.length ∧ noView (.v i) ts = true ∧ E.nx (((s.map (killT ts.length)).map (kill (.v i))).set i (.own (.lst acc))))
    (hc : X.calm = true := by rfl) (hy : X.N[i]? = some y := by rfl) (hyl : X.env.scope.names.lookup y = some .local := by rfl)
    (hfx : i ∉ fx := by decide) (hil : (ss[i]?).isSome = true := by rfl)
    (hsw : swapsWith (.ListComp elt [⟨tg, iter, ifs, 0⟩] scope pos) (some (.Name y py)) spos.line X.env = pure true := by exact sw_true rfl rfl rfl (by decide +kernel))
    (hs : ∀ x, foldedSetIterable iter X.env x = pure x := by intro _; rfl) : S1 X fx (.Assign [.Name y py] (.ListComp elt [⟨tg, iter, ifs, 0⟩] scope pos) spos) ss ts E :=
  s1_setLc own hc hN hy hyl hsw ok hfx hil h hs
theorem eLc {elt iter : Expr} {ifs : List Expr} {scope : Scope} (own : List (Str × Nat)) (hN : X.N.Nodup) (ok : BlkOk X.N X.env.scope scope own)
    (h : IV X tg iter ss ts fun s1 rs els => ∃ I : Nat → List Slot → List D → Prop, I 0 (wipeS (own.map (·.2)) s1) [] ∧
      (∀ i el s acc, els[i]? = some el → I i s acc → LcTurn X elt tg ifs scope (own.map (·.2)) el s (rs ++ ts) acc (I (i + 1))) ∧ ∀ s acc, I els.length s acc → Φ (s.map (killT ts.length)) (.own (.lst acc)))
    (hc : X.calm = true := by rfl)
    (hs : ∀ x, foldedSetIterable iter X.env x = pure x := by intro _; rfl) : EV X (.ListComp elt [⟨tg, iter, ifs, 0⟩] scope pos) ss ts Φ := ev_lc own hc hN ok h hs
theorem sFor (as : List Nat) {sts : List Stmt} (h : IV X tg it ss ts fun s1 rs els => ∃ I : Nat → List Slot → Prop, I 0 s1 ∧
      (∀ i el s, els[i]? = some el → I i s → GV X tg as el s (rs ++ ts) fun s' => SV X fx sts s' (rs ++ ts)
        (E.turn (I (i + 1)) ts.length)) ∧
      ∀ s, I els.length s → E.nx (s.map (killT ts.length)))
    (hp : PassesOwn (model X.prog X.w) X.A X.env X.xe := by exact PassesOwn.never) (hc : X.calm = true := by rfl) (hfx : ∀ i, i ∈ fx → i ∉ as := by decide)
    (hs : ∀ x, foldedSetIterable it X.env x = pure x := by intro _; rfl) : S1 X fx (.For tg it sts [] pos) ss ts E := s1_for hp hc hfx h hs
theorem gOne (i : Nat) {s : Slot} {as : List Nat} {N : List Slot → Prop} (hN : X.N.Nodup) (q : N ((ss.map (kill (.v i))).set i s)) (hi : X.N[i]? = some x := by rfl) (hx : Loc X.env.scope x := by first | exact Or.inl rfl | exact Or.inr rfl) (ha : i ∈ as := by decide) (hil : (ss[i]?).isSome = true := by rfl) (n1 : noView (.v i) (s :: ts) = true := by rfl)
    (hf : X.fn x = true ∨ X.env.scope.names.lookup x = some .local := by first | exact .inl rfl | exact .inr rfl) : GV X (.Name x pos) as (.one s) ss ts N := gv_name hN hi hx ha hil n1 q hf
theorem gTwo (i j : Nat) {s1 s2 : Slot} {as : List Nat} {k : Nat} {N : List Slot → Prop} (hN : X.N.Nodup) (q : N ((((ss.map (kill (.v j))).set j s2).map (kill (.v i))).set i s1)) (hc : X.calm = true := by rfl) (hi : X.N[i]? = some x := by rfl) (hj : X.N[j]? = some y := by rfl) (hij : i ≠ j := by decide)
    (hx : Loc X.env.scope x := by first | exact Or.inl rfl | exact Or.inr rfl) (hy : Loc X.env.scope y := by first | exact Or.inl rfl | exact Or.inr rfl)
    (ha : i ∈ as := by decide) (hb : j ∈ as := by decide) (hil : (ss[i]?).isSome = true := by rfl) (hjl : (ss[j]?).isSome = true := by rfl) (n1 : noView (.v i) (s1 :: ts) = true := by rfl) (n2 : noView (.v j) (s2 :: s1 :: ts) = true := by rfl)
    (hf : X.fn x = true ∨ X.env.scope.names.lookup x = some .local := by first | exact .inl rfl | exact .inr rfl) (hg : X.fn y = true ∨ X.env.scope.names.lookup y = some .local := by first | exact .inl rfl | exact .inr rfl)
    (hn : (assignEach [.Name x px, .Name y py] X.env).length = 2 := by rfl) (hst : (assignEach [.Name x px, .Name y py] X.env).findIdx? (·.1) = none := by rfl)
    (hs1 : (assignEach [.Name x px, .Name y py] X.env).map (·.2) = assign (.Name x px) X.env :: (assignEach [.Name y py] X.env).map (·.2) := by rfl) (hs2 : (assignEach [.Name y py] X.env).map (·.2) = assign (.Name y py) X.env :: (assignEach [] X.env).map (·.2) := by rfl) :
    GV X (.Tuple [.Name x px, .Name y py] k pos) as (.two s1 s2) ss ts N := gv_two hc hN hi hj hij hx hy ha hb hil hjl n1 n2 q hf hg hn hst hs1 hs2
/-- [..] -/
theorem eLst {k : Pos} (h : AV X es ss ts fun s rs => ∃ ds, rs = ds.map Slot.own ∧ ds.length ≤ 1000 ∧ Φ s (.own (.lst ds))) : EV X (.List es k) ss ts Φ := ev_lst h
/-- x.append(..), x in slot i -/
theorem eApp (i : Nat) {l0 : List D} (h : EV X e ss ts fun s r => ∃ l d, s[i]? = some (.own (.lst l)) ∧ r = .own d ∧ l.length < 1000000 ∧ Φ ((s.map (kill (.v i))).set i (.own (.lst (l ++ [d])))) (.own .non))
    (hN : X.N[i]? = some x := by rfl) (hv : Vis X.env.scope x := by first | exact Or.inl rfl | exact Or.inr (Or.inl rfl) | exact Or.inr (Or.inr rfl)) (h0 : ss[i]? = some (.own (.lst l0)) := by rfl) (hv1 : noView (.v i) ts = true := by rfl)
    (hd : (x == ("__debug__" : Str)) = false := by decide) (hcd : (x == ("__classdict__" : Str)) = false := by decide)
    (hbase : attributeBase (.Name x px) "append" X.env (eval (.Name x px) X.env) = eval (.Name x px) X.env := by rfl)
    (hfew : ((backTo pos (starEach [e] X.env)).all (fun x => !x.1) && (backToKw pos (keywordEach [] X.env)).all (fun x => x.1.isSome)
      && decide ([e].length + ([] : List Keyword).length + (if ([] : List Keyword).isEmpty then 0 else 1) < 30)) = true := by rfl)
    (hline : (apos.endLine == pos.line) = true := by rfl) (hs : starEach [e] X.env = (false, eval e X.env) :: starEach [] X.env := by rfl) (hplain : (backTo pos (starEach [] X.env)).any (·.1) = false := by rfl) :
    EV X (.Call (.Attribute (.Name x px) "append" apos) [e] [] pos) ss ts Φ := ev_append hN hv h0 hv1 h hd hcd hbase hfew hline hs hplain
theorem eExt (i : Nat) {l0 : List D} (h : EV X e ss ts fun s r => ∃ l k, s[i]? = some (.own (.lst l)) ∧ r = .own (.lst k) ∧ l.length + k.length ≤ 1000000 ∧ Φ ((s.map (kill (.v i))).set i (.own (.lst (l ++ k)))) (.own .non))
    (hN : X.N[i]? = some x := by rfl) (hv : Vis X.env.scope x := by first | exact Or.inl rfl | exact Or.inr (Or.inl rfl) | exact Or.inr (Or.inr rfl)) (h0 : ss[i]? = some (.own (.lst l0)) := by rfl) (hv1 : noView (.v i) ts = true := by rfl)
    (hd : (x == ("__debug__" : Str)) = false := by decide) (hcd : (x == ("__classdict__" : Str)) = false := by decide)
    (hbase : attributeBase (.Name x px) "extend" X.env (eval (.Name x px) X.env) = eval (.Name x px) X.env := by rfl)
    (hfew : ((backTo pos (starEach [e] X.env)).all (fun x => !x.1) && (backToKw pos (keywordEach [] X.env)).all (fun x => x.1.isSome)
      && decide ([e].length + ([] : List Keyword).length + (if ([] : List Keyword).isEmpty then 0 else 1) < 30)) = true := by rfl)
    (hline : (apos.endLine == pos.line) = true := by rfl) (hs : starEach [e] X.env = (false, eval e X.env) :: starEach [] X.env := by rfl) (hplain : (backTo pos (starEach [] X.env)).any (·.1) = false := by rfl) :
    EV X (.Call (.Attribute (.Name x px) "extend" apos) [e] [] pos) ss ts Φ := ev_extend hN hv h0 hv1 h hd hcd hbase hfew hline hs hplain

/-! ### turns over lists -/
theorem els_get {α : Type} {l : List α} {f : α → El} {i : Nat} {el : El} (h : (l.map f)[i]? = some el) : ∃ x, l[i]? = some x ∧ el = f x := by
  rw [List.getElem?_map] at h
  obtain ⟨x, h1, h2⟩ := Option.map_eq_some_iff.mp h
  exact ⟨x, h1, h2.symm⟩
theorem els_get2 {α β : Type} {l : List α} {g : α → β} {f : β → El} {i : Nat} {el : El} (h : ((l.map g).map f)[i]? = some el) : ∃ x, l[i]? = some x ∧ el = f (g x) := by
  obtain ⟨y, h1, rfl⟩ := els_get h
  rw [List.getElem?_map] at h1
  obtain ⟨x, h2, rfl⟩ := Option.map_eq_some_iff.mp h1
  exact ⟨x, h2, rfl⟩
theorem els_range {n i : Nat} {f : Nat → El} {el : El} (h : ((List.range n).map f)[i]? = some el) : i < n ∧ el = f i := by
  obtain ⟨x, h1, rfl⟩ := els_get h
  obtain ⟨h2, h3⟩ := List.getElem?_eq_some_iff.mp h1
  simp at h2 h3
  subst h3
  exact ⟨h2, rfl⟩
theorem take_next {α : Type} {l : List α} {i : Nat} {x : α} (h : l[i]? = some x) : l.take (i + 1) = l.take i ++ [x] := by
  rw [List.take_add_one, h]
  rfl
theorem flat_map {α : Type} {l : List α} {f : α → D} (h : ∀ x, (f x).flat = true) : ∀ d ∈ l.map f, d.flat = true := fun d hd => by
  obtain ⟨x, _, rfl⟩ := List.mem_map.mp hd
  exact h x
theorem len_range {n : Nat} {f : Nat → El} : ((List.range n).map f).length = n := by simp
theorem pls_map {α : Type} {f : α → D} {n : Nat} : ∀ {l : List α}, (∀ x, x ∈ l → (f x).pl n = true) → D.pls n (l.map f) = true
  | [], _ => by rw [List.map_nil]; unfold D.pls; rfl
  | x :: l, h => by
    rw [List.map_cons]
    unfold D.pls
    rw [h x List.mem_cons_self, pls_map fun y hy => h y (List.mem_cons_of_mem _ hy)]
    rfl
theorem pl_int {n : Nat} {i : Int} : (D.int i).pl n = true := by unfold D.pl; rfl
theorem pl_str {n : Nat} {x : Str} (h : PyData.strOk x = true) : (D.str x).pl n = true := by unfold D.pl; exact h
theorem pl_lst {n : Nat} {l : List D} (h : D.pls n l = true) : (D.lst l).pl (n + 1) = true := by unfold D.pl; exact h
theorem pl_tup {n : Nat} {l : List D} (h : D.pls n l = true) : (D.tup l).pl (n + 1) = true := by unfold D.pl; exact h

/-! ### texts -/
theorem str_app_cps (x y : Str) : (x ++ y).cps.toList = x.cps.toList ++ y.cps.toList := by
  show (x.cps ++ y.cps).toList = _
  simp
theorem str_ext {x y : Str} (h : x.cps.toList = y.cps.toList) : x = y := by
  cases x; cases y
  congr 1
  exact Array.ext' h
theorem str_len {x : Str} : x.length = x.cps.toList.length := by
  show x.cps.size = _
  simp
theorem strOk_iff {x : Str} : PyData.strOk x = true ↔ ∀ c ∈ x.cps.toList, c < 0x110000 := by
  unfold PyData.strOk
  rw [← Array.all_toList, List.all_eq_true]
  exact ⟨fun h c hc => of_decide_eq_true (h c hc), fun h c hc => decide_eq_true (h c hc)⟩
end
end DL
/-! The data layer, part 9: calls with keywords and defaults. -/
namespace DL
open PySem PySem.Spec PyProof.Rows L2
section
variable {K : PySem.W.Frag} {x qual : Str} {params : Arguments} {body : List Stmt} {scope : Scope} {dvs : List V} {f : Addr} {fd : FuncData} {ps : List Str}
/-- how a call with n positional values and the keywords ks binds: g of the positional ones, the defaults, the keywords' -/
theorem kb_of (F : FunD K x qual params body scope dvs [] f fd) (n : Nat) (ks : List Str) (g : {α : Type} → List α → List α → List α → List α) (hd : dvs ≠ [])
    (hrel : ∀ {vs ds zs : List V} {us its ws : List Value}, Vals vs us → Vals ds its → Vals zs ws → Vals (g vs ds zs) (g us its ws))
    (h : ∀ (T : Addr) (kV doc pm : Value) (an : Option Addr) (cdv ct : Value) (us its ws : List Value), us.length = n → its.length = dvs.length → ws.length = ks.length →
      ∃ k, bindArgs (PySem.W.fnOf x qual params body scope (.ref T) kV doc pm an cdv ct) ⟨us, ks.zip ws⟩ = seqItems? (.ref T) >>= k ∧ k (some its.toArray) = pure (ps.zip (g us its ws))) :
    ∃ its : List Value, KBn K fd ps n ks (fun us ws => g us its ws) (fun vs zs => g vs dvs zs) := by
  obtain ⟨oc, od, dV, kV, doc, pm, an, cdv, ct, osl, rfl, lk, hcd, hD, hK⟩ := F.ex
  rcases hD with ⟨e, _⟩ | ⟨_, T, o, its, m, rfl, lT, oT, rT⟩
  · exact absurd e hd
  · refine ⟨its, fun s us ws X l1 l2 => ?_, fun r1 r2 => hrel r1 rT r2⟩
    obtain ⟨k, e1, e2⟩ := h T kV doc pm an cdv ct us its ws l1 rT.length.symm l2
    refine BindsTo.of_looks fun M => ?_
    rw [e1]
    exact looks_items X lT oT (.of_pure e2)
/-- .. of a def without defaults -/
theorem kb_ofN (F : FunD K x qual params body scope [] [] f fd) (n : Nat) (ks : List Str) (g : {α : Type} → List α → List α → List α → List α)
    (hrel : ∀ {vs ds zs : List V} {us its ws : List Value}, Vals vs us → Vals ds its → Vals zs ws → Vals (g vs ds zs) (g us its ws))
    (h : ∀ (kV doc pm : Value) (an : Option Addr) (cdv ct : Value) (us ws : List Value), us.length = n → ws.length = ks.length →
      bindArgs (PySem.W.fnOf x qual params body scope .none kV doc pm an cdv ct) ⟨us, ks.zip ws⟩ = pure (ps.zip (g us [] ws))) :
    ∃ its : List Value, KBn K fd ps n ks (fun us ws => g us its ws) (fun vs zs => g vs [] zs) := by
  obtain ⟨oc, od, dV, kV, doc, pm, an, cdv, ct, osl, rfl, lk, hcd, hD, hK⟩ := F.ex
  rcases hD with ⟨_, rfl⟩ | ⟨e, _⟩
  · exact ⟨[], fun s us ws X l1 l2 => .of_eq (h kV doc pm an cdv ct us ws l1 l2), fun r1 r2 => hrel r1 .nil r2⟩
  · exact absurd rfl e
/-- positional calls of a def with defaults: the first j parameters are given -/
theorem b_of (F : FunD K x qual params body scope dvs [] f fd) (n j : Nat) (hd : dvs ≠ []) (hn : n + (dvs.length - j) = ps.length)
    (h : ∀ (T : Addr) (kV doc pm : Value) (an : Option Addr) (cdv ct : Value) (us its : List Value), us.length = n → its.length = dvs.length →
      ∃ k, bindArgs (PySem.W.fnOf x qual params body scope (.ref T) kV doc pm an cdv ct) ⟨us, []⟩ = seqItems? (.ref T) >>= k ∧ k (some its.toArray) = pure (ps.zip (us ++ its.drop j))) : ∃ ds, Vals (dvs.drop j) ds ∧ Binds K fd ps ds := FunD.binds1 F n j hd hn h
end
section
variable {X : Cx} {fx : List Nat} {ss ts : List Slot} {Φ : List Slot → Slot → Prop} {e : Expr} {es : List Expr} {pos p kpos : Pos} {kws : List Keyword} {Ω : List Slot → List Slot → Prop} {nm : Option Str}
/-- the values of keywords -/
def KV (X : Cx) (kws : List Keyword) (ss ts : List Slot) (Φ : List Slot → List Slot → Prop) : Prop :=
  ∀ m B σ tv H Q, Low m ts.length → Held X.K m B H σ ss tv ts → (∀ ss' rs vs H', Φ ss' rs → vs.length = rs.length → rs.length = kws.length → Held X.K m B H' σ ss' (vs.reverse ++ tv) (rs.reverse ++ ts) → Q vs H') → ∃ t, PK X kws t ∧ t σ H Q
def wK (X : Cx) (kws : List Keyword) : TA := fun σ H Q => ∃ t, PK X kws t ∧ t σ H Q
theorem pk_w : PK X kws (wK X kws) := ⟨fun pos pins s σ H Q I ⟨t, p, q⟩ => p.run pos pins s σ H Q I q⟩
theorem kv_nil (q : Ω ss []) : KV X [] ss ts Ω := fun m B σ tv H Q hm hh k => ⟨_, pk_nil, k ss [] [] H q rfl rfl hh⟩
theorem kv_cons (h : EV X e ss ts fun s r => KV X kws s (r :: ts) fun s' rs => Ω s' (r :: rs)) : KV X (⟨nm, e, kpos⟩ :: kws) ss ts Ω := fun m B σ tv H Q hm hh k => by
  refine ⟨_, pk_cons pe_w pk_w, ?_⟩
  refine h m B σ tv H _ hm hh fun s r x H1 h1 hh1 => ?_
  refine h1 m B σ (x :: tv) H1 _ hm.up hh1 fun s' rs vs H2 q l1 l2 hh2 => ?_
  refine k s' (r :: rs) (x :: vs) H2 q (by simp [l1]) (by simp [l2]) ?_
  rw [List.reverse_cons, List.reverse_cons, List.append_assoc, List.append_assoc]
  exact hh2
variable {CX : CXT} {k n : Nat} {f : Addr} {fd : FuncData} {ps ks : List Str} {x : Str} {EX : XK} {F : List D → (D → Prop) → Prop} {g : List Value → List Value → List Value} {gV : List V → List V → List V} {sp : Sp} {t tk : TA}
/-- f(k = v, ..), keywords alone -/
theorem pe_callN0 (F : FnOk X.prog X.w X.K X.mg X.base CX k f fd ps sp) (hr : Room k X.A) (hg : Gl X x) (hm : X.mg x = some (.ref f)) (hk : PySem.W.keepIn X.K (.ref f) = true) (hb : KBn X.K fd ps 0 ks g gV) (hx : Passes CX X EX)
    (hkw : PK X kws tk) (hall : (backToKw pos (keywordEach kws X.env)).all (·.1.isSome) = true := by rfl) (hks : (backToKw pos (keywordEach kws X.env)).filterMap (·.1) = ks := by rfl)
    (hdb : (x == ("__debug__" : Str)) = false := by decide)
    (hpl : ((backTo pos (starEach [] X.env)).any (·.1) || (backToKw pos (keywordEach kws X.env)).any (·.1.isNone)) = false := by rfl) :
    PE X (.Call (.Name x p) [] kws pos) (fun σ H Q => tk σ H fun zs H2 => zs.length = ks.length ∧ sp (gV [] zs) H2 Q EX) := by
  refine ⟨fun pins s σ H Q I h => ?_⟩
  refine wpAny_Call_Name_kw (ld_glob I hg hm ?_ hdb)
  refine PySem.W.callWith_KW0 (h₀ := X.base) I.ok.mod.kin hk hall (thn (hkw.run pos pins s σ H _ I h) fun ws s2 ⟨zs, H2, I2, rz, l2, q2⟩ => ⟨I2.kIn, ?_⟩) hpl
  rw [hks]
  exact run_fnN (us := []) (vs := []) F hr hb hx I2 .nil rz rfl l2 q2
theorem ev_callK0 (G : FnOk X.prog X.w X.K X.mg X.base CX k f fd ps (spP X.K F)) (hr : Room k X.A) (hg : Gl X x) (hm : X.mg x = some (.ref f)) (hk : PySem.W.keepIn X.K (.ref f) = true) (hb : KBn X.K fd ps 0 ks g gV) (hx : Passes CX X EX) (gD : List D → List D)
    (hrel : ∀ H (zs : List V) (es : List D), RepRs X.K H es zs → es.length = ks.length → RepRs X.K H (gD es) (gV [] zs))
    (h : KV X kws ss ts fun s rs => ∃ ds, isAll rs ds ∧ ds.length = ks.length ∧ F (gD ds) fun d => Φ s (.own d))
    (hall : (backToKw pos (keywordEach kws X.env)).all (·.1.isSome) = true := by rfl) (hks : (backToKw pos (keywordEach kws X.env)).filterMap (·.1) = ks := by rfl)
    (hdb : (x == ("__debug__" : Str)) = false := by decide)
    (hpl : ((backTo pos (starEach [] X.env)).any (·.1) || (backToKw pos (keywordEach kws X.env)).any (·.1.isNone)) = false := by rfl) : EV X (.Call (.Name x p) [] kws pos) ss ts Φ := fun m B σ tv H Q hm' hh kk => by
  refine toE (pe_callN0 G hr hg hm hk hb hx pk_w hall hks hdb hpl) ?_
  refine h m B σ tv H _ hm' hh fun s rs vs H1 ⟨ds, ia, hl, hF⟩ l1 l2 hh1 => ?_
  refine ⟨by rw [l1, ia.len, hl], ?_⟩
  have hpop := hh1.popA l1 hm'
  refine spP_use (hrel H1 vs ds (hh1.argsOf l1 ia hm') hl) hF fun d v H2 q n => ?_
  exact kk s _ v H2 q (hpop.new n)
/-- f(e, .., k = v, ..) -/
theorem ev_callK (G : FnOk X.prog X.w X.K X.mg X.base CX k f fd ps (spP X.K F)) (hr : Room k X.A) (hg : Gl X x) (hm : X.mg x = some (.ref f)) (hk : PySem.W.keepIn X.K (.ref f) = true) (hb : KBn X.K fd ps n ks g gV) (hx : Passes CX X EX) (gD : List D → List D → List D)
    (hrel : ∀ H (vs zs : List V) (ds es : List D), RepRs X.K H ds vs → RepRs X.K H es zs → ds.length = n → es.length = ks.length → RepRs X.K H (gD ds es) (gV vs zs))
    (h : AV X (e :: es) ss ts fun s1 rs1 => KV X kws s1 (rs1.reverse ++ ts) fun s rs => ∃ ds zs, isAll rs1 ds ∧ isAll rs zs ∧ ds.length = n ∧ zs.length = ks.length ∧ F (gD ds zs) fun d => Φ s (.own d))
    (hall : (backToKw pos (keywordEach kws X.env)).all (·.1.isSome) = true := by rfl) (hks : (backToKw pos (keywordEach kws X.env)).filterMap (·.1) = ks := by rfl)
    (hdb : (x == ("__debug__" : Str)) = false := by decide) (he : starEach (e :: es) X.env = (false, eval e X.env) :: starEach es X.env := by rfl)
    (hpl : ((backTo pos (starEach (e :: es) X.env)).any (·.1) || (backToKw pos (keywordEach kws X.env)).any (·.1.isNone)) = false := by rfl) : EV X (.Call (.Name x p) (e :: es) kws pos) ss ts Φ := fun m B σ tv H Q hm' hh kk => by
  refine toE (pe_callN G hr hg hm hk hb hx pa_w pk_w hall hks hdb he hpl) ?_
  refine h m B σ tv H _ hm' hh fun s1 rs1 vs1 H1 h1 l1 l2 hh1 => ?_
  refine h1 m B σ _ H1 _ (hm'.app _) hh1 fun s rs vs H2 ⟨ds, zs, ia, ib, n1, n2, hF⟩ l3 l4 hh2 => ?_
  have hpop := hh2.popA l3 (hm'.app _)
  refine ⟨by rw [l1, ia.len, n1], by rw [l3, ib.len, n2], ?_⟩
  refine spP_use (hrel H2 vs1 vs ds zs (hpop.argsOf l1 ia hm') (hh2.argsOf l3 ib (hm'.app _)) n1 n2) hF fun d v H3 q nn => ?_
  exact kk s _ v H3 q ((hpop.popA l1 hm').new nn)
end
end DL
/-! The data layer, part 10: isinstance, names of built-in types. -/
namespace DL
open PySem PySem.Spec PyProof.Rows L2
def D.tyN : D → Option String
  | .non => some "NoneType"
  | .bl _ => some "bool"
  | .int _ => some "int"
  | .str _ => some "str"
  | .tup _ => some "tuple"
  | .lst _ => some "list"
  | _ => none
theorem D.tyX {K : PySem.W.Frag} {H : Hp} {d : D} {v : V} {n : String} (h : RepR K H d v) (e : d.tyN = some n) : TyX K H v (.type n) := by
  cases d with
  | non => unfold RepR at h; cases e; subst h; exact .base .non
  | bl _ => unfold RepR at h; cases e; subst h; exact .base (.bl _)
  | int _ => unfold RepR at h; cases e; subst h; exact .base (.int _)
  | str _ => unfold RepR at h; cases e; subst h; exact .base (.str _)
  | tup l =>
    unfold RepR at h
    cases e
    obtain ⟨a, vs, rfl, h1, _⟩ := h
    rcases h1 with (h1 | ⟨o, h1⟩) | ⟨o, its, n, h1, h2, _⟩
    · exact .base (.tup h1)
    · exact .fTuple h1
    · exact .kTuple h1 h2
  | lst l =>
    unfold RepR at h
    cases e
    obtain ⟨a, vs, rfl, h1, _⟩ := h
    exact .base (.lst h1)
  | _ => cases e
section
variable {X : Cx} {fx : List Nat} {ss ts : List Slot} {Φ : List Slot → Slot → Prop} {e c : Expr} {pos p px : Pos} {x : Str}
/-- the name of a built-in type -/
theorem ev_ty {n : String} (hg : Gl X x) (hm : X.mg x = none) (hv : bootBuiltins x = some (.type n)) (q : Φ ss (.own (.raw (.ty n)))) (hn : x ≠ "__name__" := by decide) (hd : (x == ("__debug__" : Str)) = false := by decide) : EV X (.Name x pos) ss ts Φ :=
  ev_const (pe_bltn (v := .ty n) hg hm hv rfl hn hd) (fun H => by unfold RepO; exact ⟨rfl, rfl⟩) q
/-- isinstance(e, T) -/
theorem ev_isi (hg : Gl X "isinstance") (hm : X.mg "isinstance" = none) (h : EV X e ss ts fun s1 r1 => EV X c s1 (r1 :: ts) fun s r => ∃ d n t b, r1.is d ∧ d.tyN = some n ∧ r.is (.raw (.ty t)) ∧ PySem.W.kitOne X.K (.type n) (.type t) = some b ∧ Φ s (.own (.bl b)))
    (hs : starEach [e, c] X.env = (false, eval e X.env) :: starEach [c] X.env := by rfl) (hs2 : starEach [c] X.env = (false, eval c X.env) :: starEach [] X.env := by rfl) (hpl : (backTo pos (starEach [c] X.env)).any (·.1) = false := by rfl) : EV X (.Call (.Name "isinstance" p) [e, c] [] pos) ss ts Φ :=
  ev_callB call_isi hg hm (by decide +kernel) (av_cons (h.imp fun s1 r1 h1 => av_cons (h1.imp fun s r ⟨d, n, t, b, e1, e2, e3, e4, q⟩ => av_nil ⟨[d, .raw (.ty t)], fun d => d = .bl b, ⟨e1, e3, trivial⟩, fun H vs Q rr k => by
    obtain ⟨v, w, rfl, hv, hw⟩ := reps2 rr
    rw [rep_raw] at hw
    subst hw
    exact ⟨v, .ty t, .type n, .type t, b, rfl, .ty t, D.tyX hv e2, e4, k _ _ H rfl (.flat o_bl)⟩, fun d hd => by rw [hd]; exact q⟩) hs2) hs) (he := hs) (hpl := hpl)
end
end DL
namespace DL
open PySem PySem.Spec PyProof.Rows L2
/-- a def as callers see it: its promise, its name, how it binds; dds: the defaults that fill up -/
structure DefAt (P : Program) (w : World) (K : PySem.W.Frag) (mg : Str → Option Value) (base : Heap) (CX : CXT) (k : Nat) (x : Str) (ps : List Str) (f : Addr) (fd : FuncData) (dds : List D) (F : List D → (D → Prop) → Prop) : Prop where
  ok : FnOk P w K mg base CX k f fd ps (spP K F)
  nm : mg x = some (.ref f)
  kp : PySem.W.keepIn K (.ref f) = true
  bd : ∃ (dvs : List V) (dfl : List Value), Binds K fd ps dfl ∧ Vals dvs dfl ∧ ∀ H, RepRs K H dds dvs
section
variable {X : Cx} {fx : List Nat} {ss ts : List Slot} {Φ : List Slot → Slot → Prop} {e : Expr} {es : List Expr} {pos p : Pos} {x : Str} {k j : Nat} {ps : List Str} {f : Addr} {fd : FuncData} {dds : List D} {F : List D → (D → Prop) → Prop}
theorem eCall (C : DefAt X.prog X.w X.K X.mg X.base CX0 k x ps f fd dds F) (hr : Room j X.A) (hj : k ≤ j) (h : AV X (e :: es) ss ts fun s rs => ∃ ds, isAll rs ds ∧ F (ds ++ dds) fun d => Φ s (.own d)) (hg : Gl X x := by rfl)
    (hdb : (x == ("__debug__" : Str)) = false := by decide) (he : starEach (e :: es) X.env = (false, eval e X.env) :: starEach es X.env := by rfl) (hpl : (backTo pos (starEach es X.env)).any (·.1) = false := by rfl) : EV X (.Call (.Name x p) (e :: es) [] pos) ss ts Φ := by
  obtain ⟨dvs, dfl, b1, b2, b3⟩ := C.bd
  exact ev_call C.ok (hr.mono hj) hg C.nm C.kp b1 b2 b3 pass0 h hdb he hpl
end
theorem reps_nil {K : PySem.W.Frag} {H : Hp} : RepRs K H [] [] := by unfold RepRs; rfl
theorem reps_cons {K : PySem.W.Frag} {H : Hp} {d : D} {ds : List D} {v : V} {vs : List V} (h : RepR K H d v) (r : RepRs K H ds vs) : RepRs K H (d :: ds) (v :: vs) := by unfold RepRs; exact ⟨v, vs, rfl, h, r⟩
theorem r_int {K : PySem.W.Frag} {H : Hp} {i : Int} : RepR K H (.int i) (.int i) := rep_int.mpr rfl
theorem r_non {K : PySem.W.Frag} {H : Hp} : RepR K H .non .non := rep_non.mpr rfl
theorem r_bl {K : PySem.W.Frag} {H : Hp} {b : Bool} : RepR K H (.bl b) (.bl b) := rep_bl.mpr rfl
end DL
/-! The data layer, part 11: a def that changes its first argument. -/
namespace DL
open PySem PySem.Spec PyProof.Rows L2
/-- the first argument is changed: d0 before -/
def fI (F : D → List D → (D → D → Prop) → Prop) : FSp := fun ss q => ∃ (d0 : D) (ds : List D) (k : D → D → Prop), ss = .own d0 :: ds.map Slot.par ∧ F d0 ds k ∧ ∀ d' d, k d' d → q (.own d' :: ds.map Slot.par) d
abbrev spI (K : PySem.W.Frag) (F : D → List D → (D → D → Prop) → Prop) : Sp := spG K (fI F)
section
variable {P : Program} {w : World} {K : PySem.W.Frag} {mg : Str → Option Value} {base : Heap}
theorem fun_okI {CX : CXT} {x qual : Str} {st : Stmt} {dvs : List V} {f : Addr} {fd : FuncData} {N ps : List Str} {k : Nat} {F : D → List D → (D → D → Prop) → Prop} (Fn : FunD K x qual (defArgs st) (defBody st) (defScope st) dvs [] f fd) (S : FnScope N ps (defScope st))
    (len : ∀ d0 ds q, F d0 ds q → ds.length + 1 = ps.length)
    (hbody : ∀ (cdv : Value) (A : Around) (outer : List Env) (s : Shared) (H : Hp) (E : XK), Room k (A.deeper (envOfC qual (defScope st) s.heap.objs.size f cdv)) → ∀ d0 ds (q : D → D → Prop), F d0 ds q →
      SV (cxOf CX P w K mg base N qual (defScope st) f cdv A outer s H E).nox [0] (defBody st) (.own d0 :: (ds.map Slot.par ++ List.replicate (N.length - ps.length) .no)) []
        { nx := fun s => ∃ d', s[0]? = some (.own d') ∧ q d' .non, rt := fun s r => ∃ d' d, s[0]? = some (.own d') ∧ r = .own d ∧ q d' d }) :
    FnOk P w K mg base CX (k + 1) f fd ps (spI K F) := by
  refine fun_ok [0] Fn S (fun ss q ⟨d0, ds, k, e, h, _⟩ => ?_) fun cdv A outer s H E hr ss q ⟨d0, ds, k, e, h, kq⟩ => ?_
  · rw [e]
    simpa using len d0 ds _ h
  · subst e
    have l := len d0 ds _ h
    have hpar : ∀ i, i < ps.length → i ∉ ([0] : List Nat) → ∃ d, (Slot.own d0 :: ds.map Slot.par)[i]? = some (.par d) := fun i hi n => by
      cases i with
      | zero => exact absurd List.mem_cons_self n
      | succ i => exact ⟨ds[i]'(by omega), by simp [show i < ds.length by omega]⟩
    have same : ∀ (s : List Slot) d', s[0]? = some (.own d') → ((Slot.own d0 :: ds.map Slot.par).zipIdx.map fun p => if p.2 ∈ ([0] : List Nat) then (s[p.2]?).getD .no else p.1) = .own d' :: ds.map Slot.par := fun s d' e => by
      refine List.ext_getElem? fun i => ?_
      rw [List.getElem?_map, List.getElem?_zipIdx]
      cases i with
      | zero =>
        show some (if 0 + 0 ∈ ([0] : List Nat) then (s[0 + 0]?).getD .no else _) = _
        rw [if_pos (by exact List.mem_cons_self), e]
        rfl
      | succ i =>
        rw [List.getElem?_cons_succ, List.getElem?_cons_succ]
        cases (ds.map Slot.par)[i]? with
        | none => rfl
        | some z =>
          show some (if 0 + (i + 1) ∈ ([0] : List Nat) then _ else z) = some z
          rw [if_neg (by simp)]
    intro B σ tv H0 D hh kk
    refine hbody cdv A outer s H E hr d0 ds _ h B σ tv H0 D hh ⟨fun s2 σ2 H2 ⟨d', e, q2⟩ h2 z => kk.nx s2 σ2 H2 ⟨hpar, by rw [same _ _ e]; exact kq _ _ q2⟩ h2 z, fun s2 r σ2 v H2 ⟨d', d, e, er, q2⟩ h2 z => kk.rt s2 r σ2 v H2 ⟨hpar, d, er, by rw [same _ _ e]; exact kq _ _ q2⟩ h2 z, fun _ _ _ z => z.elim, fun _ _ _ z => z.elim⟩
end
/-- the slot is of d, and no view of o; a variable's own datum is not asked -/
def Slot.isN (o : Own) (s : Slot) (d : D) : Prop := s = .own d ∨ s = .par d ∨ ∃ o', o' ≠ o ∧ s = .view o' d
theorem Slot.isN_own {o : Own} {d : D} : Slot.isN o (.own d) d := .inl rfl
theorem Slot.isN_par {o : Own} {d : D} : Slot.isN o (.par d) d := .inr (.inl rfl)
theorem Slot.isN_view {o o' : Own} {d : D} (n : o' ≠ o) : Slot.isN o (.view o' d) d := .inr (.inr ⟨o', n, rfl⟩)
def isNs (o : Own) : List Slot → List D → Prop
  | [], [] => True
  | r :: rs, d :: ds => r.isN o d ∧ isNs o rs ds
  | _, _ => False
theorem isNs.app {o : Own} : ∀ {as : List Slot} {bs : List Slot} {cs ds : List D}, isNs o as cs → isNs o bs ds → isNs o (as ++ bs) (cs ++ ds)
  | [], _, [], _, _, k => k
  | _ :: _, _, _ :: _, _, h, k => ⟨h.1, isNs.app h.2 k⟩
  | [], _, _ :: _, _, h, _ => h.elim
  | _ :: _, _, [], _, h, _ => h.elim
theorem isNs.rev {o : Own} : ∀ {rs : List Slot} {ds : List D}, isNs o rs ds → isNs o rs.reverse ds.reverse
  | [], [], _ => trivial
  | r :: rs, d :: ds, h => by
    rw [List.reverse_cons, List.reverse_cons]
    exact (isNs.rev h.2).app ⟨h.1, trivial⟩
  | [], _ :: _, h => h.elim
  | _ :: _, [], h => h.elim
open Classical in
/-- H without F -/
noncomputable def hless (H : Hp) (F : List Addr) : Hp := fun a => if a ∈ F then none else H a
theorem hless_ex {H : Hp} {F : List Addr} : Ex (hless H F) H := fun a o h => by
  unfold hless at h
  split at h
  · cases h
  · exact h
theorem hless_at {H : Hp} {F : List Addr} {a : Addr} (h : a ∉ F) : hless H F a = H a := if_neg h
theorem hless_in {H : Hp} {F : List Addr} {a : Addr} (h : a ∈ F) : hless H F a = none := if_pos h
section
variable {K : PySem.W.Frag} {m : Nat → Prop} {B H H' : Hp} {σ : List (Option V)} {tv vs : List V} {v : V} {fp : Own → List Addr} {d : D} {l : List D} {i : Nat} {ss ts rs : List Slot} {r : Slot} {ds : List D}
theorem HeldF.topN (h : HeldF K m B H fp σ ss (v :: tv) (r :: ts)) (e : r.isN (.v i) d) : RepR K (hless H (fp (.v i))) d v := by
  have tk : TK H (hless H (fp (.v i))) := fun a o q s => by
    rw [hless_at]
    · exact q
    · intro z
      obtain ⟨u, e1, n⟩ := h.dom _ a z
      rw [q] at e1
      cases e1
      exact n s
  have ht : (v :: tv).reverse[ts.length]? = some v := by
    have := h.tlen
    rw [← show tv.length = ts.length by simpa using this]
    exact rev_top
  have z := h.tmp ts.length r rev_top
  rw [ht] at z
  rcases e with rfl | rfl | ⟨o', n, rfl⟩
  · obtain ⟨w, e1, e2⟩ := z
    cases e1
    refine (e2.frame tk fun a ha => hless_at fun z => ?_).rep
    have := h.disj _ _ a ha z
    cases this
  · obtain ⟨w, e1, e2⟩ := z
    cases e1
    refine e2.mono fun a o q => ?_
    rw [hless_at]
    · exact h.base a o q
    · intro z
      rw [h.out _ a z] at q
      cases q
  · obtain ⟨_, w, e1, e2⟩ := z
    cases e1
    refine e2.mono fun a o q => ?_
    unfold restr at q
    split at q
    · rename_i c
      rw [hless_at]
      · exact q
      · intro z
        rcases c with (c | c) | ⟨u, c1, c2⟩
        · exact n (h.disj _ _ a c z)
        · rw [h.out _ a z] at c
          cases c
        · obtain ⟨u', e1, n'⟩ := h.dom _ a z
          rw [c1] at e1
          cases e1
          exact n' c2
    · cases q
theorem HeldF.repsN : ∀ {rs : List Slot} {vs : List V} {ds : List D} {fp : Own → List Addr}, vs.length = rs.length → HeldF K m B H fp σ ss (vs ++ tv) (rs ++ ts) → isNs (.v i) rs ds → Low m ts.length → RepRs K (hless H (fp (.v i))) ds vs
  | [], [], [], _, _, _, _, _ => by unfold RepRs; rfl
  | r :: rs, v :: vs, d :: ds, fp, e, h, q, hm => by
    unfold RepRs
    refine ⟨v, vs, rfl, HeldF.topN h q.1, ?_⟩
    exact HeldF.repsN (rs := rs) (vs := vs) (ds := ds) (by simpa using e) (HeldF.pop h (hm.app _)) q.2 hm
  | [], _ :: _, _, _, e, _, _, _ => nomatch e
  | _ :: _, [], _, _, e, _, _, _ => nomatch e
  | _ :: _, _ :: _, [], _, _, _, q, _ => q.elim
  | [], [], _ :: _, _, _, _, q, _ => q.elim
/-- a call that changes what slot i owns: the callee's side -/
theorem HeldF.lend (h : HeldF K m B H fp σ ss tv ts) {x : V} {d0 : D} (hx : σ[i]? = some (some x)) (hs : ss[i]? = some (.own d0)) (r : RepRs K (hless H (fp (.v i))) ds vs) :
    Held K (fun k => k < 0) (hless H (fp (.v i))) H ((x :: vs).map some) (.own d0 :: ds.map Slot.par) [] [] := by
  refine ⟨fun o => if o = .v 0 then fp (.v i) else [], hless_ex, by simp [r.length], rfl, Low.self, fun j s e => ?_, (fun k s e => by simp at e), fun o o' a q1 q2 => ?_, fun o => ?_, fun o a q => ?_, fun o a q => ?_⟩
  · cases j with
    | zero =>
      cases e
      obtain ⟨w, e1, e2⟩ := h.var i _ hs
      rw [hx] at e1
      have e3 : x = w := Option.some.inj e1
      subst e3
      refine ⟨x, rfl, ?_⟩
      show RepO K H d0 x (if Own.v 0 = Own.v 0 then fp (.v i) else [])
      rw [if_pos rfl]
      exact e2
    | succ j =>
      rw [List.getElem?_cons_succ, List.getElem?_map] at e
      cases e1 : ds[j]? with
      | none => rw [e1] at e; cases e
      | some d =>
        rw [e1] at e
        have e2 : Slot.par d = s := Option.some.inj e
        subst e2
        obtain ⟨w, e3, e4⟩ := r.get e1
        refine ⟨w, ?_, e4⟩
        rw [List.map_cons, List.getElem?_cons_succ, List.getElem?_map, e3]
        rfl
  · revert q1 q2
    show a ∈ (if o = Own.v 0 then fp (.v i) else []) → a ∈ (if o' = Own.v 0 then fp (.v i) else []) → o = o'
    by_cases h1 : o = .v 0
    · by_cases h2 : o' = .v 0
      · intro _ _; rw [h1, h2]
      · rw [if_neg h2]; exact fun _ z => nomatch z
    · rw [if_neg h1]; exact fun z => nomatch z
  · show (if o = Own.v 0 then fp (.v i) else []).Nodup
    split
    · exact h.nod _
    · exact List.nodup_nil
  · revert q
    show a ∈ (if o = Own.v 0 then fp (.v i) else []) → _
    split
    · exact hless_in
    · exact fun z => nomatch z
  · revert q
    show a ∈ (if o = Own.v 0 then fp (.v i) else []) → _
    split
    · exact h.dom _ a
    · exact fun z => nomatch z
/-- .. and back -/
theorem HeldF.lent (h : HeldF K m B H fp σ ss tv ts) {x : V} {d0 d' : D} (hx : σ[i]? = some (some x)) (hs : ss[i]? = some (.own d0)) (ht : noView (.v i) ts = true)
    (g : Held K (fun k => k < 0) (hless H (fp (.v i))) H' ((x :: vs).map some) (.own d' :: rs) [v] [.own d]) : Held K m B H' σ ((ss.map (kill (.v i))).set i (.own d')) (v :: tv) (.own d :: ts) := by
  obtain ⟨fc, g⟩ := g
  have nd : ∀ o a, a ∈ fp o → o ≠ .v i → a ∉ fp (.v i) := fun o a q n z => n (h.disj _ _ a q z)
  have old : ∀ a o, a ∉ fp (.v i) → H a = some o → H' a = some o := fun a o n e => g.base a o (by rw [hless_at n]; exact e)
  have fr : ∀ o a, a ∈ fc o → a ∈ fp (.v i) ∨ ((∀ o, a ∉ fp o) ∧ B a = none) := fun o a q => by
    by_cases z : a ∈ fp (.v i)
    · exact .inl z
    · have e := g.out o a q
      rw [hless_at z] at e
      refine .inr ⟨fun o' q' => ?_, ?_⟩
      · obtain ⟨u, e1, _⟩ := h.dom o' a q'
        rw [e] at e1
        cases e1
      · cases eB : B a with
        | none => rfl
        | some u =>
          have := h.base a u eB
          rw [e] at this
          cases this
  have tk : TK H H' := fun a o e s => old a o (fun z => by
    obtain ⟨u, e1, n⟩ := h.dom _ a z
    rw [e] at e1
    cases e1
    exact n s) e
  obtain ⟨w, e1, r1⟩ := g.var 0 _ rfl
  have e2 : x = w := Option.some.inj e1
  subst e2
  obtain ⟨w, e3, r2⟩ := g.tmp 0 _ rfl
  have e4 : v = w := Option.some.inj e3
  subst e4
  have hi : i < ss.length := (List.getElem?_eq_some_iff.mp hs).1
  have h1 := h.change (d' := d') (F' := fc (.v 0)) (by rw [hx]; rfl) hi tk old r1 (g.nod _) (fr _) ht
  refine ⟨_, h1.push r2 (g.nod _) (fun a ha o _ => ?_) fun a ha => ?_⟩
  · by_cases h2 : o = .v i
    · subst h2
      rw [fupd_same]
      intro z
      have := g.disj _ _ a ha z
      cases this
    · rw [fupd_ne h2]
      intro z
      rcases fr _ a ha with q | q
      · exact h2 (h.disj _ _ a z q)
      · exact q.1 o z
  · rcases fr _ a ha with q | q
    · exact h.out _ a q
    · exact q.2
end
section
variable {X : Cx} {fx : List Nat} {ss ts : List Slot} {Φ : List Slot → Slot → Prop} {e : Expr} {es : List Expr} {pos p : Pos} {x : Str}
variable {CX : CXT} {k : Nat} {f : Addr} {fd : FuncData} {ps : List Str} {EX : XK} {F : D → List D → (D → D → Prop) → Prop}
theorem ev_callI {dvs : List V} {dfl : List Value} {dds : List D} (i : Nat) {y : Str} {py : Pos} {d00 : D} (G : FnOk X.prog X.w X.K X.mg X.base CX k f fd ps (spI X.K F)) (hr : Room k X.A) (hg : Gl X x) (hm : X.mg x = some (.ref f)) (hk : PySem.W.keepIn X.K (.ref f) = true) (hb : Binds X.K fd ps dfl) (hd : Vals dvs dfl) (hdd : ∀ H, RepRs X.K H dds dvs) (hx : Passes CX X EX)
    (h : AV X es ss ts fun s rs => ∃ d0 ds, s[i]? = some (.own d0) ∧ noView (.v i) ts = true ∧ isNs (.v i) rs ds ∧ F d0 (ds ++ dds) fun d' d => Φ ((s.map (kill (.v i))).set i (.own d')) (.own d))
    (h0 : ss[i]? = some (.own d00) := by rfl) (hN : X.N[i]? = some y := by rfl) (hv : Vis X.env.scope y := by first | exact Or.inl rfl | exact Or.inr (Or.inl rfl) | exact Or.inr (Or.inr rfl)) (hd0 : (y == ("__debug__" : Str)) = false := by decide) (hcd : (y == ("__classdict__" : Str)) = false := by decide)
    (hdb : (x == ("__debug__" : Str)) = false := by decide) (he : starEach (.Name y py :: es) X.env = (false, eval (.Name y py) X.env) :: starEach es X.env := by rfl) (hpl : (backTo pos (starEach es X.env)).any (·.1) = false := by rfl) : EV X (.Call (.Name x p) (.Name y py :: es) [] pos) ss ts Φ := fun m B σ tv H Q hm' hh kk => by
  refine toE (pe_call G hr hg hm hk hb hd hx (pa_cons (pe_var hN hv hd0 hcd) pa_w he) hdb he hpl) ?_
  obtain ⟨fp, hf⟩ := id hh
  obtain ⟨x0, e1, _⟩ := hf.var i _ h0
  have ex : σ[i]? = some (some x0) := by
    cases e : σ[i]? with
    | none => rw [e] at e1; cases e1
    | some y => rw [e] at e1; have z : y = some x0 := e1; rw [z]
  refine ⟨x0, ex, ?_⟩
  refine h m B σ tv H _ hm' hh fun s rs vs H1 ⟨d0, ds, hs, hv1, ia, hF⟩ l1 l2 ⟨fp1, h1⟩ => ?_
  have r1 := (HeldF.repsN (by simpa using l1) h1 ia.rev hm').rev
  rw [List.reverse_reverse, List.reverse_reverse] at r1
  have l3 : vs.reverse.length = rs.reverse.length := by simpa using l1
  have hpop := HeldF.popN l3 h1 hm'
  obtain ⟨fp3, h3, e3⟩ : ∃ fp3, HeldF X.K m B H1 fp3 σ s tv ts ∧ fp3 (.v i) = fp1 (.v i) := ⟨_, hpop, rfl⟩
  refine ⟨_, _, HeldF.lend h3 ex hs (ds := ds ++ dds) (by rw [e3]; exact r1.append (hdd _)), d0, ds ++ dds, _, rfl, hF, fun d' d q r H' g => ?_⟩
  refine kk _ (.own d) r H' q ?_
  exact HeldF.lent h3 ex hs hv1 g
end
end DL
/-! The data layer, part 12: calls that change, targets, stores, constants, more built-ins. -/
namespace DL
open PySem PySem.Spec PyProof.Rows L2
/-- a def that changes its first argument, as callers see it -/
structure DefI (P : Program) (w : World) (K : PySem.W.Frag) (mg : Str → Option Value) (base : Heap) (CX : CXT) (k : Nat) (x : Str) (ps : List Str) (f : Addr) (fd : FuncData) (dds : List D) (F : D → List D → (D → D → Prop) → Prop) : Prop where
  ok : FnOk P w K mg base CX k f fd ps (spI K F)
  nm : mg x = some (.ref f)
  kp : PySem.W.keepIn K (.ref f) = true
  bd : ∃ (dvs : List V) (dfl : List Value), Binds K fd ps dfl ∧ Vals dvs dfl ∧ ∀ H, RepRs K H dds dvs
section
variable {X : Cx} {fx : List Nat} {ss ts rs : List Slot} {Φ : List Slot → Slot → Prop} {e a b c tg it o : Expr} {es : List Expr} {pos p p2 apos px py : Pos} {x y : Str} {k j : Nat} {ps : List Str} {f : Addr} {fd : FuncData} {dds : List D} {E : DE} {Θ : List Slot → Bool → Prop} {d : D} {N : List Slot → Prop}
/-- f(x, ..), x in slot i changed -/
theorem eCallI {FI : D → List D → (D → D → Prop) → Prop} (C : DefI X.prog X.w X.K X.mg X.base CX0 k x ps f fd dds FI) (i : Nat) {d00 : D} (hr : Room j X.A) (hj : k ≤ j)
    (h : AV X es ss ts fun s rs => ∃ d0 ds, s[i]? = some (.own d0) ∧ noView (.v i) ts = true ∧ isNs (.v i) rs ds ∧ FI d0 (ds ++ dds) fun d' d => Φ ((s.map (kill (.v i))).set i (.own d')) (.own d))
    (h0 : ss[i]? = some (.own d00) := by rfl) (hN : X.N[i]? = some y := by rfl) (hg : Gl X x := by rfl) (hv : Vis X.env.scope y := by first | exact Or.inl rfl | exact Or.inr (Or.inl rfl) | exact Or.inr (Or.inr rfl)) (hd0 : (y == ("__debug__" : Str)) = false := by decide) (hcd : (y == ("__classdict__" : Str)) = false := by decide)
    (hdb : (x == ("__debug__" : Str)) = false := by decide) (he : starEach (.Name y py :: es) X.env = (false, eval (.Name y py) X.env) :: starEach es X.env := by rfl) (hpl : (backTo pos (starEach es X.env)).any (·.1) = false := by rfl) : EV X (.Call (.Name x p) (.Name y py :: es) [] pos) ss ts Φ := by
  obtain ⟨dvs, dfl, b1, b2, b3⟩ := C.bd
  exact ev_callI i C.ok (hr.mono hj) hg C.nm C.kp b1 b2 b3 pass0 h h0 hN hv hd0 hcd hdb he hpl

/-! ### targets -/
theorem HeldF.pushs {K : PySem.W.Frag} {m : Nat → Prop} {B H : Hp} {σ : List (Option V)} {tv : List V} : ∀ {ds : List D} {vs : List V} {F : List Addr} {fp : Own → List Addr}, HeldF K m B H fp σ ss tv ts → RepOs K H ds vs F → F.Nodup → (∀ a ∈ F, ∀ o, a ∉ fp o) → (∀ a ∈ F, B a = none) →
    ∃ fp', HeldF K m B H fp' σ ss (vs ++ tv) (ds.map Slot.own ++ ts) ∧ ∀ o a, a ∈ fp' o → a ∈ fp o ∨ a ∈ F
  | [], vs, F, fp, h, r, _, _, _ => by
    unfold RepOs at r
    obtain ⟨rfl, rfl⟩ := r
    exact ⟨fp, h, fun _ _ z => .inl z⟩
  | d :: ds, vs, F, fp, h, r, nd, dj, ot => by
    unfold RepOs at r
    obtain ⟨w, ws, F1, F2, rfl, rfl, r1, r2⟩ := r
    obtain ⟨n1, n2, n3⟩ := List.nodup_append.mp nd
    obtain ⟨fp', h', k⟩ := HeldF.pushs (ds := ds) h r2 n2 (fun a ha => dj a (List.mem_append_right _ ha)) (fun a ha => ot a (List.mem_append_right _ ha))
    refine ⟨_, h'.push r1 n1 (fun a ha o _ z => ?_) (fun a ha => ot a (List.mem_append_left _ ha)), fun o a => ?_⟩
    · rcases k o a z with q | q
      · exact dj a (List.mem_append_left _ ha) o q
      · exact n3 a ha a q rfl
    · show a ∈ (if o = Own.t (ds.map Slot.own ++ ts).length then F1 else fp' o) → _
      split
      · exact fun z => .inr (List.mem_append_left _ z)
      · intro z
        rcases k o a z with q | q
        · exact .inl q
        · exact .inr (List.mem_append_right _ q)
theorem Held.scatter {K : PySem.W.Frag} {m : Nat → Prop} {B H : Hp} {σ : List (Option V)} {tv : List V} {v : V} {ds : List D} (h : Held K m B H σ ss (v :: tv) (.own (.tup ds) :: ts)) (hm : Low m ts.length) :
    ∃ a vs, v = .ref a ∧ SqT K H a vs ∧ vs.length = ds.length ∧ Held K m B H σ ss (vs ++ tv) (ds.map Slot.own ++ ts) := by
  obtain ⟨fp, h⟩ := h
  obtain ⟨fp1, F, h1, _, r, nd, dj, ot, _⟩ := h.take hm
  unfold RepO at r
  obtain ⟨a, vs, rfl, sq, r⟩ := r
  obtain ⟨fp', h', _⟩ := h1.pushs r nd dj ot
  exact ⟨a, vs, rfl, sq, r.reps.length, _, h'⟩
def wGs (X : Cx) (tgs : List Expr) : List V → L2.St → Hp → (L2.St → Hp → Prop) → Prop := fun vs σ H Q => ∃ t, PGs X tgs t ∧ t vs σ H Q
theorem pgs_w {tgs : List Expr} : PGs X tgs (wGs X tgs) := ⟨fun pins s σ H vs us Q I r ⟨t, p, q⟩ => p.run pins s σ H vs us Q I r q⟩
/-- targets; their values on the way, the first at the top -/
def GsV (X : Cx) (tgs : List Expr) (as : List Nat) (rs ss ts : List Slot) (N : List Slot → Prop) : Prop :=
  ∀ m B σ tv H xs Q, Low m ts.length → xs.length = rs.length → Held X.K m B H σ ss (xs ++ tv) (rs ++ ts) → (∀ ss' σ' H', N ss' → Held X.K m B H' σ' ss' tv ts → (∀ i, i ∉ as → σ'[i]? = σ[i]?) ∧ σ'.length = σ.length → Q σ' H') → wGs X tgs xs σ H Q
theorem gs_nil {as : List Nat} (q : N ss) : GsV X [] as [] ss ts N := fun m B σ tv H xs Q hm hl hh k => by
  cases xs with
  | cons _ _ => cases hl
  | nil => exact ⟨_, pgs_nil, rfl, k ss σ H q hh ⟨fun _ _ => rfl, rfl⟩⟩
theorem gs_cons {as : List Nat} {r : Slot} (h : GV X e as (.one r) ss (rs ++ ts) fun s => GsV X es as rs s ts N) (hs : (assignEach (e :: es) X.env).map (·.2) = assign e X.env :: (assignEach es X.env).map (·.2) := by rfl) : GsV X (e :: es) as (r :: rs) ss ts N := fun m B σ tv H xs Q hm hl hh k => by
  cases xs with
  | nil => cases hl
  | cons x xs =>
    refine ⟨_, pgs_cons pg_w pgs_w hs, x, xs, rfl, ?_⟩
    refine h m B σ (xs ++ tv) H x _ (hm.app _) hh fun s σ1 H1 q h1 ⟨z1, z2⟩ => ?_
    exact q m B σ1 tv H1 xs Q hm (by simpa using hl) h1 fun s2 σ2 H2 q2 h2 ⟨z3, z4⟩ => k s2 σ2 H2 q2 h2 ⟨fun i hi => (z3 i hi).trans (z1 i hi), z4.trans z2⟩
/-- a, b, .. = a tuple -/
theorem gv_tup {as : List Nat} {n : Nat} {ds : List D} {k : Nat} (hc : X.calm = true) (hl : ds.length = n) (h : GsV X es as (ds.map Slot.own) ss ts N)
    (hn : (assignEach es X.env).length = n := by rfl) (hst : (assignEach es X.env).findIdx? (·.1) = none := by rfl) : GV X (.Tuple es k pos) as (.one (.own (.tup ds))) ss ts N := fun m B σ tv H v Q hm hh kk => by
  obtain ⟨a, vs, rfl, sq, l, h2⟩ := Held.scatter hh hm
  refine toG (pg_tup hc pgs_w hn hst) ⟨a, vs, rfl, sq, l.trans hl, ?_⟩
  exact h m B σ tv H vs Q hm (by simpa using l) h2 kk
/-- target = e -/
theorem s1_asg {as : List Nat} (h : EV X e ss ts fun s r => GV X tg as (.one r) s ts E.nx) (hfx : ∀ i, i ∈ fx → i ∉ as) (hs : swapsWithSole [tg] e pos.line X.env = pure false := by rfl) (hw : swappedStores [tg] e X.env = pure none := by rfl)
    (h1 : (assignEach [tg] X.env).map (·.2) = [assign tg X.env] := by rfl) : S1 X fx (.Assign [tg] e pos) ss ts E := fun B σ tv H D hh k => by
  refine toS (ps_asg pe_w pg_w hs hw h1) ?_
  refine h (fun k => k < ts.length) B σ tv H _ Low.self hh fun s r v H1 q h1 => ?_
  exact q (fun k => k < ts.length) B σ tv H1 v _ Low.self h1 fun s2 σ2 H2 q2 h2 ⟨z, _⟩ => k.nx s2 σ2 H2 q2 h2 fun i hi => z i (hfx i hi)
theorem RepOs.set {K : PySem.W.Frag} {H : Hp} : ∀ {ds : List D} {vs : List V} {G F : List Addr} {d : D} {w : V} (j : Nat), RepOs K H ds vs G → G.Nodup → RepO K H d w F → F.Nodup → (∀ a ∈ F, a ∉ G) → ∃ G', RepOs K H (ds.set j d) (vs.set j w) G' ∧ G'.Nodup ∧ ∀ a ∈ G', a ∈ G ∨ a ∈ F
  | [], vs, G, F, d, w, j, r, nd, _, _, _ => by
    unfold RepOs at r
    obtain ⟨rfl, rfl⟩ := r
    exact ⟨[], by unfold RepOs; exact ⟨rfl, rfl⟩, List.nodup_nil, fun _ z => nomatch z⟩
  | d0 :: ds, vs, G, F, d, w, 0, r, nd, r0, n0, dj => by
    unfold RepOs at r
    obtain ⟨w0, ws, F1, F2, rfl, rfl, r1, r2⟩ := r
    obtain ⟨n1, n2, n3⟩ := List.nodup_append.mp nd
    refine ⟨F ++ F2, ?_, List.nodup_append.mpr ⟨n0, n2, fun a ha b hb z => dj a ha (List.mem_append_right _ (z ▸ hb))⟩, fun a ha => ?_⟩
    · unfold RepOs
      exact ⟨w, ws, F, F2, rfl, rfl, r0, r2⟩
    · rcases List.mem_append.mp ha with q | q
      · exact .inr q
      · exact .inl (List.mem_append_right _ q)
  | d0 :: ds, vs, G, F, d, w, j + 1, r, nd, r0, n0, dj => by
    unfold RepOs at r
    obtain ⟨w0, ws, F1, F2, rfl, rfl, r1, r2⟩ := r
    obtain ⟨n1, n2, n3⟩ := List.nodup_append.mp nd
    obtain ⟨G', r3, n4, s⟩ := RepOs.set (ds := ds) j r2 n2 r0 n0 fun a ha z => dj a ha (List.mem_append_right _ z)
    refine ⟨F1 ++ G', ?_, List.nodup_append.mpr ⟨n1, n4, fun a ha b hb z => ?_⟩, fun a ha => ?_⟩
    · unfold RepOs
      exact ⟨w0, _, F1, G', rfl, rfl, r1, r3⟩
    · subst z
      rcases s a hb with q | q
      · exact n3 a ha a q rfl
      · exact dj a q (List.mem_append_left _ ha)
    · rcases List.mem_append.mp ha with q | q
      · exact .inl (List.mem_append_left _ q)
      · rcases s a q with q | q
        · exact .inl (List.mem_append_right _ q)
        · exact .inr q
/-- x[b] = .., x in slot i -/
theorem gv_store {as : List Nat} {r : Slot} (i : Nat) {l0 : List D} (h : EV X b ss (r :: ts) fun s rb => ∃ l k j d, s[i]? = some (.own (.lst l)) ∧ rb.is (.int k) ∧ ixN l.length k = some j ∧ r = .own d ∧ N ((s.map (kill (.v i))).set i (.own (.lst (l.set j d)))))
    (h0 : ss[i]? = some (.own (.lst l0)) := by rfl) (hv1 : noView (.v i) ts = true := by rfl) (hN : X.N[i]? = some x := by rfl) (hv : Vis X.env.scope x := by first | exact Or.inl rfl | exact Or.inr (Or.inl rfl) | exact Or.inr (Or.inr rfl))
    (hd : (x == ("__debug__" : Str)) = false := by decide) (hcd : (x == ("__classdict__" : Str)) = false := by decide)
    (ha : ∀ v, assign (.Subscript (.Name x px) b pos) X.env v = (do
      let ov ← holding [v] (eval (.Name x px) X.env)
      let iv ← holding [v, ov] (eval b X.env)
      standAt pos
      holding [v, ov, iv] (setItem ov iv v)
      release [v, ov, iv] []) := by intro _; rfl) : GV X (.Subscript (.Name x px) b pos) as (.one r) ss ts N := fun m B σ tv H v Q hm hh kk => by
  refine toG (pg_sub (pe_var hN hv hd hcd) pe_w set_list ha) ?_
  obtain ⟨fp, hf⟩ := id hh
  obtain ⟨A, vs, G, x1, a1, _, _⟩ := hf.lst h0
  refine ⟨.ref A, x1, ?_⟩
  refine h m B σ (v :: tv) H _ hm.up hh fun s rb y H1 ⟨l, k, j, d, hi, eb, ej, er, q⟩ h1 => ?_
  subst er
  have yb := h1.top eb
  rw [rep_int] at yb
  obtain ⟨fp1, h1⟩ := h1.pop hm.up
  obtain ⟨fp2, F2, h2, s2, r2, n2, o2, b2, _⟩ := h1.take hm
  obtain ⟨A', vs', G', x2, a2, f2, g2⟩ := h2.lst hi
  rw [x1] at x2
  cases x2
  have lv := g2.reps.length
  have nd := h2.nod (.v i)
  rw [f2] at nd
  have nd2 := (List.nodup_cons.mp nd).2
  obtain ⟨G3, r3, n3, s3⟩ := RepOs.set j g2 nd2 r2 n2 fun a ha z => o2 a ha (.v i) (by rw [f2]; exact List.mem_cons_of_mem _ z)
  refine ⟨A, vs', k, j, rfl, yb, a2, by rw [lv]; exact ej, ?_⟩
  have h3 := h2.relist (getElem?_lt hi) x1 a2 f2 r3 n3 (fun b hb => (s3 b hb).imp id fun z => ⟨o2 b z, b2 b z⟩) hv1
  exact kk _ σ _ q h3 ⟨fun _ _ => rfl, rfl⟩
/-- x, y = a, b -/
theorem sPar (i j : Nat) {kt k2 : Nat} {pt pt2 : Pos} (hN : X.N.Nodup)
    (h : AV X [a, b] ss ts fun s rs => ∃ r1 r2, rs = [r1, r2] ∧ s.length = ss.length ∧ noView (.v i) (r1 :: ts) = true ∧ noView (.v j) (r2 :: r1 :: ts) = true ∧ E.nx ((((s.map (kill (.v j))).set j r2).map (kill (.v i))).set i r1))
    (hc : X.calm = true := by rfl) (hi : X.N[i]? = some x := by rfl) (hj : X.N[j]? = some y := by rfl) (hij : i ≠ j := by decide) (hfi : i ∉ fx := by decide) (hfj : j ∉ fx := by decide) (hil : (ss[i]?).isSome = true := by rfl) (hjl : (ss[j]?).isSome = true := by rfl)
    (hx : X.env.scope.names.lookup x = some .local := by rfl) (hy : X.env.scope.names.lookup y = some .local := by rfl)
    (hw : swappedStores [.Tuple [.Name x px, .Name y py] kt pt] (.Tuple [a, b] k2 pt2) X.env = pure (some [x, y]) := by rfl)
    (hs : swapsWithSole [.Tuple [.Name x px, .Name y py] kt pt] (.Tuple [a, b] k2 pt2) pos.line X.env = pure false := by rfl) :
    S1 X fx (.Assign [.Tuple [.Name x px, .Name y py] kt pt] (.Tuple [a, b] k2 pt2) pos) ss ts E := fun B σ tv H D hh k => by
  refine toS (ps_par hc hN hi hj hij hx hy pa_w hw hs) ?_
  refine h (fun k => k < ts.length) B σ tv H _ Low.self hh fun s rs vs H1 ⟨r1, r2, e, sl, n1, n2, q⟩ l1 l2 h1 => ?_
  subst e
  match vs, l1 with
  | [v1, v2], _ =>
    refine ⟨v1, v2, rfl, ?_⟩
    have a1 := (List.mem_cons_self : r2 ∈ r2 :: r1 :: ts)
    have h2 := Held.assign (σ := σ) (tv := v1 :: tv) (ts := r1 :: ts) h1 Low.self.up (by rw [sl]; exact isSome_lt hjl) (by
      cases r2 <;> first | exact n2 | (have z := n2; unfold noView at z; rw [Bool.and_eq_true] at z; exact z.2)) (fun d z => noView_mem n2 _ a1 d z)
    have h3 := Held.assign h2 Low.self (by simp only [List.length_set, List.length_map]; rw [sl]; exact isSome_lt hil) (by
      cases r1 <;> first | exact n1 | (have z := n1; unfold noView at z; rw [Bool.and_eq_true] at z; exact z.2)) (fun d z => noView_mem n1 _ List.mem_cons_self d z)
    have e : (σ.set i (some v1)).set j (some v2) = (σ.set j (some v2)).set i (some v1) := List.set_comm _ _ hij
    rw [e]
    refine k.nx _ _ H1 q h3 fun l hl => ?_
    rw [List.getElem?_set_ne (fun z => by subst z; exact hfi hl), List.getElem?_set_ne (fun z => by subst z; exact hfj hl)]

/-! ### constants of the module -/
/-- the module's name x stands for flat data -/
def GloD (K : PySem.W.Frag) (mg : Str → Option Value) (x : Str) (d : D) : Prop := ∃ u v, mg x = some u ∧ RelV v u ∧ ∀ H, RepO K H d v []
theorem ev_glo (hg : Gl X x) (hm : GloD X.K X.mg x d) (q : Φ ss (.own d)) (hd : (x == ("__debug__" : Str)) = false := by decide) : EV X (.Name x pos) ss ts Φ := by
  obtain ⟨u, v, h1, h2, h3⟩ := hm
  exact ev_const (pe_glob hg h1 h2 hd) h3 q
/-! ### built-ins -/
theorem reps3 {K : PySem.W.Frag} {H : Hp} {d e g : D} {vs : List V} (h : RepRs K H [d, e, g] vs) : ∃ v w z, vs = [v, w, z] ∧ RepR K H d v ∧ RepR K H e w ∧ RepR K H g z := by
  unfold RepRs at h
  obtain ⟨w, ws, rfl, h1, h2⟩ := h
  obtain ⟨v, z, rfl, h3, h4⟩ := reps2 h2
  exact ⟨w, v, z, rfl, h1, h3, h4⟩
theorem ev_abs (hg : Gl X "abs") (hm : X.mg "abs" = none) (h : EV X e ss ts fun s r => ∃ i, r.is (.int i) ∧ Φ s (.own (.int (if i < 0 then -i else i))))
    (he : starEach [e] X.env = (false, eval e X.env) :: starEach [] X.env := by rfl) : EV X (.Call (.Name "abs" p) [e] [] pos) ss ts Φ :=
  ev_callB call_abs hg hm (by decide +kernel) (av_cons (h.imp fun s r ⟨i, e1, q⟩ => av_nil ⟨[.int i], fun d => d = .int (if i < 0 then -i else i), ⟨e1, trivial⟩, fun H vs Q rr k => by
    obtain ⟨v, rfl, hv⟩ := reps1 rr
    rw [rep_int] at hv
    exact ⟨i, by rw [hv], k _ _ H rfl (.flat o_int)⟩, fun d hd => by rw [hd]; exact q⟩) he) (he := he)
/-- int of a bool -/
theorem ev_intB (hg : Gl X "int") (hm : X.mg "int" = none) (h : EV X e ss ts fun s r => ∃ i, r.is (.bl i) ∧ Φ s (.own (.int (if i then 1 else 0))))
    (he : starEach [e] X.env = (false, eval e X.env) :: starEach [] X.env := by rfl) : EV X (.Call (.Name "int" p) [e] [] pos) ss ts Φ :=
  ev_callTy call_int1 hg hm (by decide +kernel) (av_cons (h.imp fun s r ⟨i, e1, q⟩ => av_nil ⟨[.bl i], fun d => d = .int (if i then 1 else 0), ⟨e1, trivial⟩, fun H vs Q rr k => by
    obtain ⟨v, rfl, hv⟩ := reps1 rr
    rw [rep_bl] at hv
    exact .inr ⟨i, by rw [hv], k _ _ H rfl (.flat o_int)⟩, fun d hd => by rw [hd]; exact q⟩) he) (he := he)
/-- list of a list or tuple of flat data -/
theorem ev_listOf (hg : Gl X "list") (hm : X.mg "list" = none) (h : EV X e ss ts fun s r => ∃ d l, r.is d ∧ d.seqL = some l ∧ D.flats l = true ∧ Φ s (.own (.lst l)))
    (he : starEach [e] X.env = (false, eval e X.env) :: starEach [] X.env := by rfl) : EV X (.Call (.Name "list" p) [e] [] pos) ss ts Φ :=
  ev_callTy call_list_of hg hm (by decide +kernel) (av_cons (h.imp fun s r ⟨d, l, e1, e2, fl, q⟩ => av_nil ⟨[d], fun d => d = .lst l, ⟨e1, trivial⟩, fun H vs Q rr k => by
    obtain ⟨v, rfl, hv⟩ := reps1 rr
    obtain ⟨a, ws, rfl, h1, h2⟩ := D.seq_rep hv e2
    exact ⟨a, ws, rfl, h1, fun l hl => k _ _ _ rfl (.lstF hl (h2.flatO fl))⟩, fun d hd => by rw [hd]; exact q⟩) he) (he := he)
theorem CDivP.of {i j : Int} (h : 0 < j) (h2 : j.natAbs.log2 < 9000) : CDivP i j := ⟨h, PyProof.noPylong_of_log2 h2⟩
theorem New.tup {K : PySem.W.Frag} {H : Hp} {p : Addr} {vs : List V} {ds : List D} (hp : H p = none) (h : ∀ H, RepOs K H ds vs []) : New K H (upd H p (.tup vs)) (.ref p) (.tup ds) :=
  ⟨Ex.new hp, [], by unfold RepO; exact ⟨p, vs, rfl, .inl (.inl upd_same), h _⟩, List.nodup_nil, fun a ha => nomatch ha⟩
theorem ev_divmod (hg : Gl X "divmod") (hm : X.mg "divmod" = none) (h : EV X a ss ts fun s1 r1 => EV X b s1 (r1 :: ts) fun s r2 => ∃ i j, r1.is (.int i) ∧ r2.is (.int j) ∧ (0 < j ∧ j.natAbs.log2 < 9000) ∧ Φ s (.own (.tup [.int (i / j), .int (i % j)])))
    (he : starEach [a, b] X.env = (false, eval a X.env) :: starEach [b] X.env := by rfl) (he2 : starEach [b] X.env = (false, eval b X.env) :: starEach [] X.env := by rfl) (hpl : (backTo pos (starEach [b] X.env)).any (·.1) = false := by rfl) : EV X (.Call (.Name "divmod" p) [a, b] [] pos) ss ts Φ :=
  ev_callB call_divmodW hg hm (by decide +kernel) (av_cons (h.imp fun s1 r1 h1 => av_cons (h1.imp fun s r2 ⟨i, j, e1, e2, hc, q⟩ => av_nil ⟨[.int i, .int j], fun d => d = .tup [.int (i / j), .int (i % j)], ⟨e1, e2, trivial⟩, fun H vs Q rr k => by
    obtain ⟨v, w, rfl, hv, hw⟩ := reps2 rr
    rw [rep_int] at hv hw
    exact ⟨i, j, by rw [hv, hw], CDivP.of hc.1 hc.2, fun p hp => k _ _ _ rfl (.tup hp fun H => reps_ofInts [i / j, i % j])⟩, fun d hd => by rw [hd]; exact q⟩) he2) he) (he := he) (hpl := hpl)
/-! ### in, is -/
theorem D.scs_rep {K : PySem.W.Frag} {H : Hp} : ∀ {l : List D} {vs xs : List V}, RepRs K H l vs → l.mapM D.sc = some xs → vs = xs
  | [], vs, xs, h, e => by
    unfold RepRs at h
    cases e
    exact h
  | d :: l, vs, xs, h, e => by
    unfold RepRs at h
    obtain ⟨w, ws, rfl, h1, h2⟩ := h
    rw [List.mapM_cons] at e
    obtain ⟨x, e1, e⟩ := Option.bind_eq_some_iff.mp e
    obtain ⟨ys, e2, e⟩ := Option.bind_eq_some_iff.mp e
    cases e
    rw [D.sc_rep h1 e1, D.scs_rep h2 e2]
theorem D.sc_flat {d : D} {x : V} (e : d.sc = some x) : flatV x = true := by
  cases d <;> first | (cases e; rfl) | cases e
theorem D.scs_flat : ∀ {l : List D} {xs : List V}, l.mapM D.sc = some xs → xs.all flatV = true
  | [], xs, e => by cases e; rfl
  | d :: l, xs, e => by
    rw [List.mapM_cons] at e
    obtain ⟨x, e1, e⟩ := Option.bind_eq_some_iff.mp e
    obtain ⟨ys, e2, e⟩ := Option.bind_eq_some_iff.mp e
    cases e
    rw [List.all_cons, D.sc_flat e1, D.scs_flat e2]
    rfl
theorem tv_in (h : EV X a ss ts fun s1 r1 => EV X b s1 (r1 :: ts) fun s2 r2 => ∃ d1 d2 x l xs, r1.is d1 ∧ r2.is d2 ∧ d1.sc = some x ∧ d2.seqL = some l ∧ l.mapM D.sc = some xs ∧ Θ s2 (inV x xs)) (hb : behindInMarks .In b = false := by rfl) : TV X (.Compare a [.In] [b] pos) ss ts Θ :=
  tv_cmp2 op_in_seq hb (h.imp fun s1 r1 h1 => h1.imp fun s2 r2 ⟨d1, d2, x, l, xs, e1, e2, c1, c2, c3, q⟩ => ⟨_, _, _, e1, e2, fun H u w rx ry Q q => by
    obtain ⟨A, vs, rfl, sq, rr⟩ := D.seq_rep ry c2
    rw [D.sc_rep rx c1]
    have e := D.scs_rep rr c3
    subst e
    exact ⟨A, vs, rfl, sq, D.sc_flat c1, D.scs_flat c3, q⟩, q⟩)
theorem tv_notin (h : EV X a ss ts fun s1 r1 => EV X b s1 (r1 :: ts) fun s2 r2 => ∃ d1 d2 x l xs, r1.is d1 ∧ r2.is d2 ∧ d1.sc = some x ∧ d2.seqL = some l ∧ l.mapM D.sc = some xs ∧ Θ s2 (!inV x xs)) (hb : behindInMarks .NotIn b = false := by rfl) : TV X (.Compare a [.NotIn] [b] pos) ss ts Θ :=
  tv_cmp2 op_notIn_seq hb (h.imp fun s1 r1 h1 => h1.imp fun s2 r2 ⟨d1, d2, x, l, xs, e1, e2, c1, c2, c3, q⟩ => ⟨_, _, _, e1, e2, fun H u w rx ry Q q => by
    obtain ⟨A, vs, rfl, sq, rr⟩ := D.seq_rep ry c2
    rw [D.sc_rep rx c1]
    have e := D.scs_rep rr c3
    subst e
    exact ⟨A, vs, rfl, sq, D.sc_flat c1, D.scs_flat c3, q⟩, q⟩)
theorem tv_isB (h : EV X a ss ts fun s1 r1 => EV X b s1 (r1 :: ts) fun s2 r2 => ∃ i j, r1.is (.bl i) ∧ r2.is (.bl j) ∧ Θ s2 (decide (i = j))) : TV X (.Compare a [.Is] [b] pos) ss ts Θ :=
  tv_cmp2 op_isBl (nobehind _ (by decide) (by decide)) (h.imp fun s1 r1 h1 => h1.imp fun s2 r2 ⟨i, j, e1, e2, q⟩ => ⟨_, _, _, e1, e2, fun H x y rx ry Q q => by
    rw [rep_bl] at rx ry
    exact ⟨i, j, rx, ry, q⟩, q⟩)
theorem tv_notB (h : EV X a ss ts fun s1 r1 => EV X b s1 (r1 :: ts) fun s2 r2 => ∃ i j, r1.is (.bl i) ∧ r2.is (.bl j) ∧ Θ s2 (!decide (i = j))) : TV X (.Compare a [.IsNot] [b] pos) ss ts Θ :=
  tv_cmp2 op_notBl (nobehind _ (by decide) (by decide)) (h.imp fun s1 r1 h1 => h1.imp fun s2 r2 ⟨i, j, e1, e2, q⟩ => ⟨_, _, _, e1, e2, fun H x y rx ry Q q => by
    rw [rep_bl] at rx ry
    exact ⟨i, j, rx, ry, q⟩, q⟩)
/-! ### try that runs through -/
theorem s1_tryN {sts : List Stmt} {h0 : ExceptHandler} {hs : List ExceptHandler} (hx : X.nox = X) (h : SV X fx sts ss ts E) : S1 X fx (.Try sts (h0 :: hs) [] [] pos) ss ts E := fun B σ tv H D hh k => by
  refine toS (ps_try_thru0 (t := wSs X sts) (by rw [hx]; exact pss_w)) ?_
  exact h B σ tv H D hh k
end
end DL
/-! The data layer, part 13: rules whose premises are worked out by the elaborator. -/
namespace DL
open PySem PySem.Spec PyProof.Rows L2
@[reducible] def slotAt : List Slot → Nat → Slot
  | [], _ => .no
  | s :: _, 0 => s
  | _ :: r, i + 1 => slotAt r i
@[reducible] def D.fl0 : D → Bool
  | .non => true
  | .bl _ => true
  | .int _ => true
  | .str _ => true
  | .raw _ => true
  | _ => false
@[reducible] def D.fls : List D → Bool
  | [] => true
  | d :: ds => match d.fl0 with
    | true => D.fls ds
    | false => false
@[reducible] def D.fl : D → Bool
  | .tup l => D.fls l
  | .exc _ _ l => D.fls l
  | .non => true
  | .bl _ => true
  | .int _ => true
  | .str _ => true
  | .raw _ => true
  | _ => false
theorem D.fl0_flat {d : D} (h : d.fl0 = true) : d.flat = true := by cases d <;> first | rfl | cases h
theorem D.fls_flat : ∀ {l : List D}, D.fls l = true → D.flats l = true
  | [], _ => by unfold D.flats; rfl
  | d :: l, h => by
    unfold D.fls at h
    unfold D.flats
    cases e : d.fl0 with
    | false => rw [e] at h; cases h
    | true =>
      rw [e] at h
      rw [D.fl0_flat e, D.fls_flat h]
      rfl
theorem D.fl_flat {d : D} (h : d.fl = true) : d.flat = true := by
  cases d with
  | tup l => unfold D.flat; exact D.fls_flat h
  | exc _ _ l => unfold D.flat; exact D.fls_flat h
  | _ => first | rfl | cases h
@[reducible] def nmK (i : Nat) (ss : List Slot) (Φ : List Slot → Slot → Prop) : Slot → Prop
  | .no => False
  | .own d => match d.fl with
    | true => Φ ss (.own d)
    | false => Φ ss (.view (.v i) d)
  | .par d => match d.fl with
    | true => Φ ss (.own d)
    | false => Φ ss (.par d)
  | .view o d => match d.fl with
    | true => Φ ss (.own d)
    | false => Φ ss (.view o d)
theorem slotAt_some : ∀ {ss : List Slot} {i : Nat} {s : Slot}, slotAt ss i = s → s ≠ .no → ss[i]? = some s
  | [], i, s, h, n => by
    unfold slotAt at h
    exact absurd h.symm n
  | t :: ss, 0, s, h, n => by
    unfold slotAt at h
    rw [← h]
    rfl
  | t :: ss, i + 1, s, h, n => by
    unfold slotAt at h
    rw [List.getElem?_cons_succ]
    exact slotAt_some h n
section
variable {X : Cx} {fx : List Nat} {ss ts rs : List Slot} {Φ : List Slot → Slot → Prop} {e a b c tg it o : Expr} {es : List Expr} {pos p p2 apos px py : Pos} {x y : Str} {E : DE} {Θ : List Slot → Bool → Prop} {d : D}
/-- a view's flat data, as owned -/
theorem ev_varVF {i : Nat} {ow : Own} (hN : X.N[i]? = some x) (hv : Vis X.env.scope x) (hs : ss[i]? = some (.view ow d)) (hf : d.flat = true) (q : Φ ss (.own d)) (hd : (x == ("__debug__" : Str)) = false := by decide) (hcd : (x == ("__classdict__" : Str)) = false := by decide) :
    EV X (.Name x pos) ss ts Φ := fun m B σ tv H Q hm h k => by
  refine ev_varV (Φ := fun s r => s = ss ∧ r = .view ow d) hN hv hs ⟨rfl, rfl⟩ hd hcd m B σ tv H Q hm h fun ss' r v H' ⟨e1, e2⟩ hh => ?_
  subst e1 e2
  exact k _ _ v H' q (hh.flat hm Slot.is_view hf)
/-- the name in slot i -/
theorem nm (i : Nat) (q : nmK i ss Φ (slotAt ss i)) (hN : X.N[i]? = some x := by rfl) (hv : Vis X.env.scope x := by first | exact Or.inl rfl | exact Or.inr (Or.inl rfl) | exact Or.inr (Or.inr rfl)) (hd : (x == ("__debug__" : Str)) = false := by decide) (hcd : (x == ("__classdict__" : Str)) = false := by decide) :
    EV X (.Name x pos) ss ts Φ := by
  generalize hs : slotAt ss i = s at q
  cases s with
  | no => exact q.elim
  | own d =>
    have h := slotAt_some hs (fun z => nomatch z)
    unfold nmK at q
    simp only at q
    cases e : d.fl with
    | true => rw [e] at q; exact ev_var hN hv h (D.fl_flat e) q hd hcd
    | false => rw [e] at q; exact ev_varL hN hv h q hd hcd
  | par d =>
    have h := slotAt_some hs (fun z => nomatch z)
    unfold nmK at q
    simp only at q
    cases e : d.fl with
    | true => rw [e] at q; exact ev_varPF hN hv h (D.fl_flat e) q hd hcd
    | false => rw [e] at q; exact ev_varP hN hv h q hd hcd
  | view o d =>
    have h := slotAt_some hs (fun z => nomatch z)
    unfold nmK at q
    simp only at q
    cases e : d.fl with
    | true => rw [e] at q; exact ev_varVF hN hv h (D.fl_flat e) q hd hcd
    | false => rw [e] at q; exact ev_varV hN hv h q hd hcd
/-! ### ints -/
@[reducible] def i2K (k : Int → Int → Prop) : Slot → Slot → Prop
  | .own (.int i), .own (.int j) => k i j
  | _, _ => False
theorem i2K_of {k : Int → Int → Prop} {r s : Slot} (h : i2K k r s) : ∃ i j, r = .own (.int i) ∧ s = .own (.int j) ∧ k i j := by
  unfold i2K at h
  split at h
  · exact ⟨_, _, rfl, rfl, h⟩
  · exact h.elim
theorem eSub (h : EV X a ss ts fun s1 r1 => EV X b s1 (r1 :: ts) fun s r2 => i2K (fun i j => Φ s (.own (.int (i - j)))) r1 r2) : EV X (.BinOp a .Sub b pos) ss ts Φ :=
  ev_sub (h.imp fun s1 r1 h1 => h1.imp fun s r2 h2 => by
    obtain ⟨i, j, rfl, rfl, q⟩ := i2K_of h2
    exact ⟨i, j, Slot.is_own, Slot.is_own, q⟩)
theorem eMul (h : EV X a ss ts fun s1 r1 => EV X b s1 (r1 :: ts) fun s r2 => i2K (fun i j => CMulW i j ∧ Φ s (.own (.int (i * j)))) r1 r2) : EV X (.BinOp a .Mult b pos) ss ts Φ :=
  ev_mul (h.imp fun s1 r1 h1 => h1.imp fun s r2 h2 => by
    obtain ⟨i, j, rfl, rfl, q⟩ := i2K_of h2
    exact ⟨i, j, Slot.is_own, Slot.is_own, q⟩)
theorem eMod (h : EV X a ss ts fun s1 r1 => EV X b s1 (r1 :: ts) fun s r2 => i2K (fun i j => 0 < j ∧ Φ s (.own (.int (i % j)))) r1 r2) : EV X (.BinOp a .Mod b pos) ss ts Φ :=
  ev_mod (h.imp fun s1 r1 h1 => h1.imp fun s r2 h2 => by
    obtain ⟨i, j, rfl, rfl, q⟩ := i2K_of h2
    exact ⟨i, j, Slot.is_own, Slot.is_own, q⟩)
theorem eDiv (h : EV X a ss ts fun s1 r1 => EV X b s1 (r1 :: ts) fun s r2 => i2K (fun i j => CDivW i j ∧ Φ s (.own (.int (i / j)))) r1 r2) : EV X (.BinOp a .FloorDiv b pos) ss ts Φ :=
  ev_fdiv (h.imp fun s1 r1 h1 => h1.imp fun s r2 h2 => by
    obtain ⟨i, j, rfl, rfl, q⟩ := i2K_of h2
    exact ⟨i, j, Slot.is_own, Slot.is_own, q⟩)
theorem ePow (h : EV X a ss ts fun s1 r1 => EV X b s1 (r1 :: ts) fun s r2 => i2K (fun i j => CPow i j ∧ Φ s (.own (.int (i ^ j.toNat)))) r1 r2) : EV X (.BinOp a .Pow b pos) ss ts Φ :=
  ev_ii op_pow (h.imp fun s1 r1 h1 => h1.imp fun s r2 h2 => by
    obtain ⟨i, j, rfl, rfl, q⟩ := i2K_of h2
    exact ⟨i, j, Slot.is_own, Slot.is_own, q⟩)
@[reducible] def addK (s : List Slot) (Φ : List Slot → Slot → Prop) : Slot → Slot → Prop
  | .own (.int i), .own (.int j) => Φ s (.own (.int (i + j)))
  | .own (.str x), .own (.str y) => x.length + y.length ≤ 1000000 ∧ Φ s (.own (.str (x ++ y)))
  | _, _ => False
theorem eAdd (h : EV X a ss ts fun s1 r1 => EV X b s1 (r1 :: ts) fun s r2 => addK s Φ r1 r2) : EV X (.BinOp a .Add b pos) ss ts Φ :=
  ev_addG (h.imp fun s1 r1 h1 => h1.imp fun s r2 h2 => by
    unfold addK at h2
    split at h2
    · exact .inl ⟨_, _, Slot.is_own, Slot.is_own, h2⟩
    · exact .inr ⟨_, _, Slot.is_own, Slot.is_own, h2.1, h2.2⟩
    · exact h2.elim)
@[reducible] def i1K (k : Int → Prop) : Slot → Prop
  | .own (.int i) => k i
  | _ => False
theorem i1K_of {k : Int → Prop} {r : Slot} (h : i1K k r) : ∃ i, r = .own (.int i) ∧ k i := by
  unfold i1K at h
  split at h
  · exact ⟨_, rfl, h⟩
  · exact h.elim
@[reducible] def b1K (k : Bool → Prop) : Slot → Prop
  | .own (.bl i) => k i
  | _ => False
theorem b1K_of {k : Bool → Prop} {r : Slot} (h : b1K k r) : ∃ i, r = .own (.bl i) ∧ k i := by
  unfold b1K at h
  split at h
  · exact ⟨_, rfl, h⟩
  · exact h.elim
theorem eNeg (h : EV X a ss ts fun s r => i1K (fun i => Φ s (.own (.int (-i)))) r) : EV X (.UnaryOp .USub a pos) ss ts Φ :=
  ev_neg (h.imp fun s r h => by
    obtain ⟨i, rfl, q⟩ := i1K_of h
    exact ⟨i, Slot.is_own, q⟩)
/-! ### tests -/
theorem tLt (h : EV X a ss ts fun s1 r1 => EV X b s1 (r1 :: ts) fun s r2 => i2K (fun i j => Θ s (decide (i < j))) r1 r2) : TV X (.Compare a [.Lt] [b] pos) ss ts Θ :=
  tv_lt (h.imp fun s1 r1 h1 => h1.imp fun s r2 h2 => by
    obtain ⟨i, j, rfl, rfl, q⟩ := i2K_of h2
    exact ⟨i, j, Slot.is_own, Slot.is_own, q⟩)
theorem tLe (h : EV X a ss ts fun s1 r1 => EV X b s1 (r1 :: ts) fun s r2 => i2K (fun i j => Θ s (decide (i ≤ j))) r1 r2) : TV X (.Compare a [.LtE] [b] pos) ss ts Θ :=
  tv_le (h.imp fun s1 r1 h1 => h1.imp fun s r2 h2 => by
    obtain ⟨i, j, rfl, rfl, q⟩ := i2K_of h2
    exact ⟨i, j, Slot.is_own, Slot.is_own, q⟩)
theorem tGt (h : EV X a ss ts fun s1 r1 => EV X b s1 (r1 :: ts) fun s r2 => i2K (fun i j => Θ s (decide (j < i))) r1 r2) : TV X (.Compare a [.Gt] [b] pos) ss ts Θ :=
  tv_gt (h.imp fun s1 r1 h1 => h1.imp fun s r2 h2 => by
    obtain ⟨i, j, rfl, rfl, q⟩ := i2K_of h2
    exact ⟨i, j, Slot.is_own, Slot.is_own, q⟩)
theorem tGe (h : EV X a ss ts fun s1 r1 => EV X b s1 (r1 :: ts) fun s r2 => i2K (fun i j => Θ s (decide (j ≤ i))) r1 r2) : TV X (.Compare a [.GtE] [b] pos) ss ts Θ :=
  tv_ge (h.imp fun s1 r1 h1 => h1.imp fun s r2 h2 => by
    obtain ⟨i, j, rfl, rfl, q⟩ := i2K_of h2
    exact ⟨i, j, Slot.is_own, Slot.is_own, q⟩)
/-- == of scalars of one kind -/
@[reducible] def eq2K (k : Bool → Prop) : Slot → Slot → Prop
  | .own (.int i), .own (.int j) => k (decide (i = j))
  | .own (.bl i), .own (.bl j) => k (decide (i = j))
  | .own (.str i), .own (.str j) => k (decide (i = j))
  | _, _ => False
theorem eq2K_of {k : Bool → Prop} {r s : Slot} (h : eq2K k r s) : ∃ d1 d2 x y, r.is d1 ∧ s.is d2 ∧ d1.sc = some x ∧ d2.sc = some y ∧ scal x y = true ∧ k (decide (x = y)) := by
  unfold eq2K at h
  split at h
  · rename_i i j
    refine ⟨.int i, .int j, _, _, Slot.is_own, Slot.is_own, rfl, rfl, rfl, ?_⟩
    rw [show decide (V.int i = V.int j) = decide (i = j) from decide_eq_decide.mpr ⟨fun z => V.int.inj z, fun z => by rw [z]⟩]
    exact h
  · rename_i i j
    refine ⟨.bl i, .bl j, _, _, Slot.is_own, Slot.is_own, rfl, rfl, rfl, ?_⟩
    rw [show decide (V.bl i = V.bl j) = decide (i = j) from decide_eq_decide.mpr ⟨fun z => V.bl.inj z, fun z => by rw [z]⟩]
    exact h
  · rename_i i j
    refine ⟨.str i, .str j, _, _, Slot.is_own, Slot.is_own, rfl, rfl, rfl, ?_⟩
    rw [show decide (V.str i = V.str j) = decide (i = j) from decide_eq_decide.mpr ⟨fun z => V.str.inj z, fun z => by rw [z]⟩]
    exact h
  · exact h.elim
theorem tEq (h : EV X a ss ts fun s1 r1 => EV X b s1 (r1 :: ts) fun s r2 => eq2K (fun t => Θ s t) r1 r2) : TV X (.Compare a [.Eq] [b] pos) ss ts Θ := tv_eq (h.imp fun s1 r1 h1 => h1.imp fun s r2 h2 => eq2K_of h2)
theorem tNe (h : EV X a ss ts fun s1 r1 => EV X b s1 (r1 :: ts) fun s r2 => eq2K (fun t => Θ s (!t)) r1 r2) : TV X (.Compare a [.NotEq] [b] pos) ss ts Θ := tv_ne (h.imp fun s1 r1 h1 => h1.imp fun s r2 h2 => eq2K_of h2)
/-- a comparison as a value -/
theorem eLt (h : EV X a ss ts fun s1 r1 => EV X b s1 (r1 :: ts) fun s r2 => i2K (fun i j => Φ s (.own (.bl (decide (i < j))))) r1 r2) : EV X (.Compare a [.Lt] [b] pos) ss ts Φ :=
  ev_lt (h.imp fun s1 r1 h1 => h1.imp fun s r2 h2 => by
    obtain ⟨i, j, rfl, rfl, q⟩ := i2K_of h2
    exact ⟨i, j, Slot.is_own, Slot.is_own, q⟩)
theorem eGt (h : EV X a ss ts fun s1 r1 => EV X b s1 (r1 :: ts) fun s r2 => i2K (fun i j => Φ s (.own (.bl (decide (j < i))))) r1 r2) : EV X (.Compare a [.Gt] [b] pos) ss ts Φ :=
  ev_gt (h.imp fun s1 r1 h1 => h1.imp fun s r2 h2 => by
    obtain ⟨i, j, rfl, rfl, q⟩ := i2K_of h2
    exact ⟨i, j, Slot.is_own, Slot.is_own, q⟩)
theorem eGe (h : EV X a ss ts fun s1 r1 => EV X b s1 (r1 :: ts) fun s r2 => i2K (fun i j => Φ s (.own (.bl (decide (j ≤ i))))) r1 r2) : EV X (.Compare a [.GtE] [b] pos) ss ts Φ :=
  ev_ge (h.imp fun s1 r1 h1 => h1.imp fun s r2 h2 => by
    obtain ⟨i, j, rfl, rfl, q⟩ := i2K_of h2
    exact ⟨i, j, Slot.is_own, Slot.is_own, q⟩)
theorem eLe (h : EV X a ss ts fun s1 r1 => EV X b s1 (r1 :: ts) fun s r2 => i2K (fun i j => Φ s (.own (.bl (decide (i ≤ j))))) r1 r2) : EV X (.Compare a [.LtE] [b] pos) ss ts Φ :=
  ev_le (h.imp fun s1 r1 h1 => h1.imp fun s r2 h2 => by
    obtain ⟨i, j, rfl, rfl, q⟩ := i2K_of h2
    exact ⟨i, j, Slot.is_own, Slot.is_own, q⟩)
theorem tIsB (h : EV X a ss ts fun s1 r1 => EV X b s1 (r1 :: ts) fun s r2 => b1K (fun i => b1K (fun j => Θ s (decide (i = j))) r2) r1) : TV X (.Compare a [.Is] [b] pos) ss ts Θ :=
  tv_isB (h.imp fun s1 r1 h1 => h1.imp fun s r2 h2 => by
    obtain ⟨i, rfl, h3⟩ := b1K_of h2
    obtain ⟨j, rfl, h4⟩ := b1K_of h3
    exact ⟨i, j, Slot.is_own, Slot.is_own, h4⟩)
theorem tNotB (h : EV X a ss ts fun s1 r1 => EV X b s1 (r1 :: ts) fun s r2 => b1K (fun i => b1K (fun j => Θ s (!decide (i = j))) r2) r1) : TV X (.Compare a [.IsNot] [b] pos) ss ts Θ :=
  tv_notB (h.imp fun s1 r1 h1 => h1.imp fun s r2 h2 => by
    obtain ⟨i, rfl, h3⟩ := b1K_of h2
    obtain ⟨j, rfl, h4⟩ := b1K_of h3
    exact ⟨i, j, Slot.is_own, Slot.is_own, h4⟩)
/-- a value as a test -/
theorem tVal (h : EV X e ss ts fun s r => b1K (fun t => Θ s t) r) (he : ∀ whole, isTrue e X.env whole = (do let v ← whole; standAt e.pos; holding [v] (truthy v)) := by intro _; rfl) : TV X e ss ts Θ :=
  tv_val (h.imp fun s r h => by
    obtain ⟨t, rfl, q⟩ := b1K_of h
    exact ⟨t, Slot.is_own, q⟩) he
theorem eAnd {rest : List Expr} (h : EV X a ss ts fun s r => b1K (fun t => (t = true → EV X (.BoolOp .And (b :: rest) pos) s ts Φ) ∧ (t = false → Φ s (.own (.bl false)))) r) : EV X (.BoolOp .And (a :: b :: rest) pos) ss ts Φ :=
  ev_and (h.imp fun s r h => by
    obtain ⟨t, rfl, q⟩ := b1K_of h
    exact ⟨t, Slot.is_own, q⟩)
theorem eOr {rest : List Expr} (h : EV X a ss ts fun s r => b1K (fun t => (t = true → Φ s (.own (.bl true))) ∧ (t = false → EV X (.BoolOp .Or (b :: rest) pos) s ts Φ)) r) : EV X (.BoolOp .Or (a :: b :: rest) pos) ss ts Φ :=
  ev_or (h.imp fun s r h => by
    obtain ⟨t, rfl, q⟩ := b1K_of h
    exact ⟨t, Slot.is_own, q⟩)
theorem eNot (h : EV X a ss ts fun s r => b1K (fun t => Φ s (.own (.bl (!t)))) r) : EV X (.UnaryOp .Not a pos) ss ts Φ :=
  ev_not (h.imp fun s r h => by
    obtain ⟨t, rfl, q⟩ := b1K_of h
    exact ⟨t, Slot.is_own, q⟩)
/-! ### parts, displays, calls -/
@[reducible] def seqK (k : List D → Prop) : Slot → Prop
  | .own (.tup l) => k l
  | .own (.lst l) => k l
  | .par (.tup l) => k l
  | .par (.lst l) => k l
  | .par (.fz l) => k l
  | .view _ (.tup l) => k l
  | .view _ (.lst l) => k l
  | _ => False
theorem seqK_of {k : List D → Prop} {r : Slot} (h : seqK k r) : ∃ d l, r.is d ∧ d.seqL = some l ∧ k l := by
  unfold seqK at h
  split at h
  · exact ⟨_, _, Slot.is_own, rfl, h⟩
  · exact ⟨_, _, Slot.is_own, rfl, h⟩
  · exact ⟨_, _, Slot.is_par, rfl, h⟩
  · exact ⟨_, _, Slot.is_par, rfl, h⟩
  · exact ⟨_, _, Slot.is_par, rfl, h⟩
  · exact ⟨_, _, Slot.is_view, rfl, h⟩
  · exact ⟨_, _, Slot.is_view, rfl, h⟩
  · exact h.elim
/-- o[i] of flat data -/
theorem eIx (h : EV X a ss ts fun s1 r1 => EV X b s1 (r1 :: ts) fun s r2 => seqK (fun l => i1K (fun i => ∃ d, atI l i = some d ∧ d.flat = true ∧ Φ s (.own d)) r2) r1) (hs : PlainIx b := by intro _ _; rfl) : EV X (.Subscript a b pos) ss ts Φ :=
  ev_ix hs (h.imp fun s1 r1 h1 => h1.imp fun s r2 h2 => by
    obtain ⟨d0, l, e1, e2, h3⟩ := seqK_of h2
    obtain ⟨i, rfl, d, e3, e4, q⟩ := i1K_of h3
    exact ⟨d0, l, i, d, e1, e2, Slot.is_own, e3, e4, q⟩)
theorem eLen (hg : Gl X "len") (hm : X.mg "len" = none) (h : EV X e ss ts fun s r => seqK (fun l => Φ s (.own (.int ((l.length : Nat) : Int)))) r)
    (he : starEach [e] X.env = (false, eval e X.env) :: starEach [] X.env := by rfl) : EV X (.Call (.Name "len" p) [e] [] pos) ss ts Φ :=
  ev_len hg hm (h.imp fun s r h => by
    obtain ⟨d0, l, e1, e2, h3⟩ := seqK_of h
    exact ⟨d0, l, e1, e2, h3⟩) he
theorem eAbs (hm : X.mg "abs" = none) (h : EV X e ss ts fun s r => i1K (fun i => Φ s (.own (.int (if i < 0 then -i else i)))) r) (hg : Gl X "abs" := by rfl)
    (he : starEach [e] X.env = (false, eval e X.env) :: starEach [] X.env := by rfl) : EV X (.Call (.Name "abs" p) [e] [] pos) ss ts Φ :=
  ev_abs hg hm (h.imp fun s r h => by
    obtain ⟨i, rfl, q⟩ := i1K_of h
    exact ⟨i, Slot.is_own, q⟩) he
theorem eIntB (hm : X.mg "int" = none) (h : EV X e ss ts fun s r => b1K (fun i => Φ s (.own (.int (if i then 1 else 0)))) r) (hg : Gl X "int" := by rfl)
    (he : starEach [e] X.env = (false, eval e X.env) :: starEach [] X.env := by rfl) : EV X (.Call (.Name "int" p) [e] [] pos) ss ts Φ :=
  ev_intB hg hm (h.imp fun s r h => by
    obtain ⟨i, rfl, q⟩ := b1K_of h
    exact ⟨i, Slot.is_own, q⟩) he
theorem eListOf (hm : X.mg "list" = none) (h : EV X e ss ts fun s r => seqK (fun l => D.flats l = true ∧ Φ s (.own (.lst l))) r) (hg : Gl X "list" := by rfl)
    (he : starEach [e] X.env = (false, eval e X.env) :: starEach [] X.env := by rfl) : EV X (.Call (.Name "list" p) [e] [] pos) ss ts Φ :=
  ev_listOf hg hm (h.imp fun s r h => by
    obtain ⟨d0, l, e1, e2, h3⟩ := seqK_of h
    exact ⟨d0, l, e1, e2, h3⟩) he
theorem eDivmod (hm : X.mg "divmod" = none) (h : EV X a ss ts fun s1 r1 => EV X b s1 (r1 :: ts) fun s r2 => i2K (fun i j => (0 < j ∧ j.natAbs.log2 < 9000) ∧ Φ s (.own (.tup [.int (i / j), .int (i % j)]))) r1 r2) (hg : Gl X "divmod" := by rfl)
    (he : starEach [a, b] X.env = (false, eval a X.env) :: starEach [b] X.env := by rfl) (he2 : starEach [b] X.env = (false, eval b X.env) :: starEach [] X.env := by rfl) (hpl : (backTo pos (starEach [b] X.env)).any (·.1) = false := by rfl) : EV X (.Call (.Name "divmod" p) [a, b] [] pos) ss ts Φ :=
  ev_divmod hg hm (h.imp fun s1 r1 h1 => h1.imp fun s r2 h2 => by
    obtain ⟨i, j, rfl, rfl, q⟩ := i2K_of h2
    exact ⟨i, j, Slot.is_own, Slot.is_own, q⟩) he he2 hpl
/-- all owned -/
@[reducible] def ownK : List Slot → (List D → Prop) → Prop
  | [], k => k []
  | .own d :: rs, k => ownK rs fun ds => k (d :: ds)
  | _, _ => False
theorem ownK_of : ∀ {rs : List Slot} {k : List D → Prop}, ownK rs k → ∃ ds, rs = ds.map Slot.own ∧ k ds
  | [], k, h => ⟨[], rfl, h⟩
  | .own d :: rs, k, h => by
    obtain ⟨ds, rfl, q⟩ := ownK_of (rs := rs) h
    exact ⟨d :: ds, rfl, q⟩
  | .no :: _, _, h => h.elim
  | .par _ :: _, _, h => h.elim
  | .view _ _ :: _, _, h => h.elim
@[reducible] def allK : List Slot → (List D → Prop) → Prop
  | [], k => k []
  | .own d :: rs, k => allK rs fun ds => k (d :: ds)
  | .par d :: rs, k => allK rs fun ds => k (d :: ds)
  | .view _ d :: rs, k => allK rs fun ds => k (d :: ds)
  | .no :: _, _ => False
theorem allK_of : ∀ {rs : List Slot} {k : List D → Prop}, allK rs k → ∃ ds, isAll rs ds ∧ k ds
  | [], k, h => ⟨[], trivial, h⟩
  | .own d :: rs, k, h => by
    obtain ⟨ds, i, q⟩ := allK_of (rs := rs) h
    exact ⟨d :: ds, ⟨Slot.is_own, i⟩, q⟩
  | .par d :: rs, k, h => by
    obtain ⟨ds, i, q⟩ := allK_of (rs := rs) h
    exact ⟨d :: ds, ⟨Slot.is_par, i⟩, q⟩
  | .view o d :: rs, k, h => by
    obtain ⟨ds, i, q⟩ := allK_of (rs := rs) h
    exact ⟨d :: ds, ⟨Slot.is_view, i⟩, q⟩
  | .no :: _, _, h => h.elim
@[reducible] def allNK (o : Own) : List Slot → (List D → Prop) → Prop
  | [], k => k []
  | .own d :: rs, k => allNK o rs fun ds => k (d :: ds)
  | .par d :: rs, k => allNK o rs fun ds => k (d :: ds)
  | .view o' d :: rs, k => o' ≠ o ∧ allNK o rs fun ds => k (d :: ds)
  | .no :: _, _ => False
theorem allNK_of {o : Own} : ∀ {rs : List Slot} {k : List D → Prop}, allNK o rs k → ∃ ds, isNs o rs ds ∧ k ds
  | [], k, h => ⟨[], trivial, h⟩
  | .own d :: rs, k, h => by
    obtain ⟨ds, i, q⟩ := allNK_of (rs := rs) h
    exact ⟨d :: ds, ⟨Slot.isN_own, i⟩, q⟩
  | .par d :: rs, k, h => by
    obtain ⟨ds, i, q⟩ := allNK_of (rs := rs) h
    exact ⟨d :: ds, ⟨Slot.isN_par, i⟩, q⟩
  | .view o' d :: rs, k, h => by
    obtain ⟨ds, i, q⟩ := allNK_of (rs := rs) h.2
    exact ⟨d :: ds, ⟨Slot.isN_view h.1, i⟩, q⟩
  | .no :: _, _, h => h.elim
theorem dTup {k : Nat} (h : AV X es ss ts fun s rs => ownK rs fun ds => Nat.ble ds.length 1000 = true ∧ Φ s (.own (.tup ds))) (ht : ∀ t, PA X es t → PE X (.Tuple es k pos) (tTup t) := by intro t h; exact pe_tup h) : EV X (.Tuple es k pos) ss ts Φ :=
  ev_tup (fun m B σ tv H Q hm hh k => h m B σ tv H Q hm hh fun s rs vs H' q => k s rs vs H' (by
    obtain ⟨ds, rfl, q1, q2⟩ := ownK_of q
    exact ⟨ds, rfl, Nat.le_of_ble_eq_true q1, q2⟩)) ht
theorem dLst {k : Pos} (h : AV X es ss ts fun s rs => ownK rs fun ds => Nat.ble ds.length 1000 = true ∧ Φ s (.own (.lst ds))) : EV X (.List es k) ss ts Φ :=
  ev_lst fun m B σ tv H Q hm hh k => h m B σ tv H Q hm hh fun s rs vs H' q => k s rs vs H' (by
    obtain ⟨ds, rfl, q1, q2⟩ := ownK_of q
    exact ⟨ds, rfl, Nat.le_of_ble_eq_true q1, q2⟩)
variable {k j : Nat} {ps : List Str} {f : Addr} {fd : FuncData} {dds : List D}
theorem cCall {F : List D → (D → Prop) → Prop} (C : DefAt X.prog X.w X.K X.mg X.base CX0 k x ps f fd dds F) (hr : Room j X.A) (hj : k ≤ j) (h : AV X (e :: es) ss ts fun s rs => allK rs fun ds => F (ds ++ dds) fun d => Φ s (.own d)) (hg : Gl X x := by rfl)
    (hdb : (x == ("__debug__" : Str)) = false := by decide) (he : starEach (e :: es) X.env = (false, eval e X.env) :: starEach es X.env := by rfl) (hpl : (backTo pos (starEach es X.env)).any (·.1) = false := by rfl) : EV X (.Call (.Name x p) (e :: es) [] pos) ss ts Φ :=
  eCall C hr hj (fun m B σ tv H Q hm hh k => h m B σ tv H Q hm hh fun s rs vs H' q => k s rs vs H' (allK_of q)) hg hdb he hpl
theorem cCallI {FI : D → List D → (D → D → Prop) → Prop} (C : DefI X.prog X.w X.K X.mg X.base CX0 k x ps f fd dds FI) (i : Nat) {d00 : D} (hr : Room j X.A) (hj : k ≤ j)
    (h : AV X es ss ts fun s rs => ∃ d0, s[i]? = some (.own d0) ∧ noView (.v i) ts = true ∧ allNK (.v i) rs fun ds => FI d0 (ds ++ dds) fun d' d => Φ ((s.map (kill (.v i))).set i (.own d')) (.own d))
    (h0 : ss[i]? = some (.own d00) := by rfl) (hN : X.N[i]? = some y := by rfl) (hg : Gl X x := by rfl) (hv : Vis X.env.scope y := by first | exact Or.inl rfl | exact Or.inr (Or.inl rfl) | exact Or.inr (Or.inr rfl)) (hd0 : (y == ("__debug__" : Str)) = false := by decide) (hcd : (y == ("__classdict__" : Str)) = false := by decide)
    (hdb : (x == ("__debug__" : Str)) = false := by decide) (he : starEach (.Name y py :: es) X.env = (false, eval (.Name y py) X.env) :: starEach es X.env := by rfl) (hpl : (backTo pos (starEach es X.env)).any (·.1) = false := by rfl) : EV X (.Call (.Name x p) (.Name y py :: es) [] pos) ss ts Φ :=
  eCallI C i hr hj (fun m B σ tv H Q hm hh k => h m B σ tv H Q hm hh fun s rs vs H' ⟨d0, q1, q2, q3⟩ => k s rs vs H' (by
    obtain ⟨ds, i1, q4⟩ := allNK_of q3
    exact ⟨d0, ds, q1, q2, i1, q4⟩)) h0 hN hg hv hd0 hcd hdb he hpl
end
end DL
/-! Fractions as pairs, in plain Lean: what lowest, plus and product come to, and how great they grow. -/
namespace DL
/-- the pair in lowest terms -/
def lowQ (p q : Int) : Int × Int := (p / (Int.gcd p q : Int), q / (Int.gcd p q : Int))
def plusQ (a b : Int × Int) : Int × Int := lowQ (a.1 * b.2 + b.1 * a.2) (a.2 * b.2)
def timesQ (a b : Int × Int) : Int × Int := lowQ (a.1 * b.1) (a.2 * b.2)
/-- in lowest terms, below 2^b -/
structure Nb (b : Nat) (x : Int × Int) : Prop where
  pos : 0 < x.2
  top : x.1.natAbs < 2 ^ b
  bot : x.2.natAbs < 2 ^ b
  cop : Int.gcd x.1 x.2 = 1
theorem gcd_pos {p q : Int} (h : 0 < q) : 0 < (Int.gcd p q : Int) := by
  have : Int.gcd p q ≠ 0 := fun z => by
    rw [Int.gcd_eq_zero_iff] at z
    omega
  omega
theorem div_le {p g : Int} (hg : 0 < g) (hd : g ∣ p) : (p / g).natAbs ≤ p.natAbs := by
  obtain ⟨k, rfl⟩ := hd
  rw [Int.mul_ediv_cancel_left _ (by omega), Int.natAbs_mul]
  exact Nat.le_mul_of_pos_left _ (by omega)
theorem lowQ_nb {p q : Int} {b : Nat} (hq : 0 < q) (h1 : p.natAbs < 2 ^ b) (h2 : q.natAbs < 2 ^ b) : Nb b (lowQ p q) := by
  have hg := gcd_pos (p := p) hq
  have d1 : (Int.gcd p q : Int) ∣ p := Int.gcd_dvd_left ..
  have d2 : (Int.gcd p q : Int) ∣ q := Int.gcd_dvd_right ..
  refine ⟨?_, Nat.lt_of_le_of_lt (div_le hg d1) h1, Nat.lt_of_le_of_lt (div_le hg d2) h2, ?_⟩
  · show 0 < q / (Int.gcd p q : Int)
    exact Int.ediv_pos_of_pos_of_dvd hq (by omega) d2
  · show Int.gcd (p / (Int.gcd p q : Int)) (q / (Int.gcd p q : Int)) = 1
    rw [Int.gcd_ediv d1 d2, Int.natAbs_natCast]
    exact Nat.div_self (by omega)
theorem lowQ_self {x : Int × Int} {b : Nat} (h : Nb b x) : lowQ x.1 x.2 = x := by
  unfold lowQ
  rw [h.cop]
  simp
theorem lt_mul {a b : Nat} {x y : Int} (h1 : x.natAbs < 2 ^ a) (h2 : y.natAbs < 2 ^ b) : (x * y).natAbs < 2 ^ (a + b) := by
  rw [Int.natAbs_mul, Nat.pow_add]
  exact Nat.mul_lt_mul'' h1 h2
theorem lt_add {a : Nat} {x y : Int} (h1 : x.natAbs < 2 ^ a) (h2 : y.natAbs < 2 ^ a) : (x + y).natAbs < 2 ^ (a + 1) := by
  rw [Nat.pow_succ]
  omega
theorem lt_up {a b : Nat} {x : Int} (h1 : x.natAbs < 2 ^ a) (h : a ≤ b) : x.natAbs < 2 ^ b := Nat.lt_of_lt_of_le h1 (Nat.pow_le_pow_right (by omega) h)
theorem Nb.up {a b : Nat} {x : Int × Int} (h : Nb a x) (hb : a ≤ b) : Nb b x := ⟨h.pos, lt_up h.top hb, lt_up h.bot hb, h.cop⟩
theorem log2_lt {x : Int} {b : Nat} (h : x.natAbs < 2 ^ b) (hb : 0 < b) : x.natAbs.log2 < b := by
  by_cases h0 : x.natAbs = 0
  · rw [h0]
    exact hb
  · exact (Nat.log2_lt h0).mpr h
theorem plusQ_nb {a b : Nat} {x y : Int × Int} (h : Nb a x) (k : Nb b y) : Nb (a + b + 1) (plusQ x y) := by
  refine lowQ_nb (Int.mul_pos h.pos k.pos) (lt_add (lt_mul h.top k.bot) ?_) (lt_up (lt_mul h.bot k.bot) (by omega))
  rw [Int.mul_comm]
  exact lt_mul h.bot k.top
theorem timesQ_nb {a b : Nat} {x y : Int × Int} (h : Nb a x) (k : Nb b y) : Nb (a + b) (timesQ x y) :=
  lowQ_nb (Int.mul_pos h.pos k.pos) (lt_mul h.top k.top) (lt_mul h.bot k.bot)
theorem nb_int {p : Int} {b : Nat} (h : p.natAbs < 2 ^ b) (hb : 0 < b) : Nb b (p, 1) :=
  ⟨Int.one_pos, h, Nat.lt_of_lt_of_le (by decide : (1 : Int).natAbs < 2 ^ 1) (Nat.pow_le_pow_right (by decide) hb), by simp⟩
theorem plusQ_zero {x : Int × Int} {b : Nat} (h : Nb b x) : plusQ (0, 1) x = x := by
  unfold plusQ
  simp only [Int.zero_mul, Int.zero_add, Int.mul_one, Int.one_mul]
  exact lowQ_self h
theorem timesQ_comm (x y : Int × Int) : timesQ x y = timesQ y x := by
  unfold timesQ
  rw [Int.mul_comm x.1, Int.mul_comm x.2]
theorem plusQ_comm (x y : Int × Int) : plusQ x y = plusQ y x := by
  unfold plusQ
  rw [Int.mul_comm x.2 y.2, Int.add_comm]
theorem gcd_fmod (p q : Int) : Int.gcd q (p.fmod q) = Int.gcd p q := by
  rw [Int.fmod_def, Int.gcd_sub_mul_left_right, Int.gcd_comm]
theorem fmod_lt (p : Int) {q : Int} (h : q ≠ 0) : (p.fmod q).natAbs < q.natAbs := by
  rw [Int.fmod_eq_emod]
  have h1 := Int.emod_nonneg p h
  have h2 := Int.emod_lt_of_pos p (b := q.natAbs) (by omega)
  have h3 : p % (q.natAbs : Int) = p % q := by
    rcases Int.natAbs_eq q with e | e
    · rw [← e]
    · rw [e]
      simp
  rw [h3] at h2
  split
  · omega
  · rename_i c
    have hq : q < 0 := by
      rw [not_or] at c
      omega
    have h0 : p % q ≠ 0 := fun z => c (.inr (Int.dvd_of_emod_eq_zero z))
    omega
theorem gcd_zero (p : Int) : (Int.gcd p 0 : Int) = if p < 0 then -p else p := by
  rw [Int.gcd_zero]
  split <;> omega
theorem gcd_dvd {p q : Int} (hq : 0 < q) (h : p % q = 0) : (Int.gcd p q : Int) = q := by
  have e : Int.gcd p q = Nat.gcd p.natAbs q.natAbs := rfl
  rw [e, Nat.gcd_eq_right (Int.natAbs_dvd_natAbs.mpr (Int.dvd_of_emod_eq_zero h))]
  omega
/-- a pair with a bottom above 0, below 2^b -/
structure Sp (b : Nat) (x : Int × Int) : Prop where
  pos : 0 < x.2
  top : x.1.natAbs < 2 ^ b
  bot : x.2.natAbs < 2 ^ b
theorem Nb.sp {b : Nat} {x : Int × Int} (h : Nb b x) : Sp b x := ⟨h.pos, h.top, h.bot⟩
theorem Sp.up {a b : Nat} {x : Int × Int} (h : Sp a x) (hb : a ≤ b) : Sp b x := ⟨h.pos, lt_up h.top hb, lt_up h.bot hb⟩
theorem gcd_emod (p : Int) {q : Int} (h : 0 < q) : Int.gcd q (p % q) = Int.gcd p q := by
  have e := gcd_fmod p q
  rwa [Int.fmod_eq_emod_of_nonneg _ (by omega)] at e
theorem ite_nn {b : Bool} {z : Int} (h : 0 ≤ z) : 0 ≤ if b = true then z else 0 := by cases b <;> first | exact h | exact Int.le_refl _
theorem ite_lt {b : Bool} {z : Int} {n : Nat} (h : z.natAbs < n) (h0 : 0 < n) : (if b = true then z else 0).natAbs < n := by cases b <;> first | exact h | exact h0
theorem gcd_emod' (p : Int) {q : Int} (h : 0 < q) : Int.gcd q (p % q) = Int.gcd q p := by
  rw [gcd_emod p h, Int.gcd_comm]
end DL
/-! The data layer, part 14: the built-in names, bounds. -/
namespace DL
open PySem PySem.Spec PyProof.Rows L2
/-- the built-in names that no module of the law gives another meaning -/
structure Txt (mg : Str → Option Value) : Prop where
  len : mg "len" = none
  range : mg "range" = none
  str : mg "str" = none
  isi : mg "isinstance" = none
  list : mg "list" = none
  sorted : mg "sorted" = none
  sum : mg "sum" = none
  abs : mg "abs" = none
  int : mg "int" = none
  bool : mg "bool" = none
  tuple : mg "tuple" = none
  divmod : mg "divmod" = none
  zip : mg "zip" = none
  enum : mg "enumerate" = none
  max : mg "max" = none
  min : mg "min" = none
  any : mg "any" = none
  all : mg "all" = none
  verr : mg "ValueError" = none
abbrev fTxt : List He.Fa := [.free "len", .free "range", .free "str", .free "isinstance", .free "list", .free "sorted", .free "sum", .free "abs", .free "int", .free "bool", .free "tuple", .free "divmod", .free "zip", .free "enumerate", .free "max", .free "min", .free "any", .free "all", .free "ValueError"]
theorem cmul {x y : Int} (a b : Nat) (h1 : x.natAbs < 2 ^ a) (h2 : y.natAbs < 2 ^ b) (ha : 0 < a) (hb : 0 < b) (h : a + b ≤ 1000000) : CMulW x y := by
  have := log2_lt h1 ha
  have := log2_lt h2 hb
  unfold CMulW
  omega
theorem cdiv {x y : Int} (b : Nat) (h0 : 0 < y) (h2 : y.natAbs < 2 ^ b) (hb : 0 < b) (h : b ≤ 9000) : CDivW x y := ⟨h0, by
  have := log2_lt h2 hb
  omega⟩
/-- a fraction -/
@[reducible] def fr (x : Int × Int) : D := .tup [.int x.1, .int x.2]
/-- the law's pile of digits: a number, a cell, a count below n -/
def Pile (n : Nat) (d : D) : Prop := ∃ a b c : Int, d = .lst [.int a, .int b, .int c] ∧ 0 ≤ a ∧ a.natAbs < 2 ^ 500 ∧ b.natAbs < 2 ^ 31 ∧ 0 ≤ c ∧ c ≤ n
theorem Pile.up {n k : Nat} {d : D} (h : Pile n d) (e : n ≤ k) : Pile k d := by
  obtain ⟨a, b, c, h1, h2, h3, h4, h5, h6⟩ := h
  exact ⟨a, b, c, h1, h2, h3, h4, h5, by omega⟩
theorem HeldF.ownP {K : PySem.W.Frag} {m : Nat → Prop} {B H : Hp} {fp : Own → List Addr} {σ : List (Option V)} {ss ts : List Slot} {tv : List V} {i : Nat} {d : D} (h : HeldF K m B H fp σ ss tv ts) (hs : ss[i]? = some (.par d)) (hf : d.flat = true) (h1 : noView (.v i) ss = true) (h2 : noView (.v i) ts = true) :
    HeldF K m B H (fupd fp (.v i) []) σ (ss.set i (.own d)) tv ts := by
  refine ⟨h.base, by simpa using h.slen, h.tlen, h.mle, fun j s e => ?_, fun j s e => ?_, fun o o' a => ?_, fun o => ?_, fun o a => ?_, fun o a => ?_⟩
  · have hi := isSome_lt (by rw [hs]; rfl : (ss[i]?).isSome = true)
    by_cases hj : j = i
    · subst hj
      rw [List.getElem?_set_self hi] at e
      cases e
      obtain ⟨v, e1, e2⟩ := h.var j _ hs
      refine ⟨v, e1, ?_⟩
      rw [fupd_same]
      exact (e2.mono h.base).flatO hf
    · rw [List.getElem?_set_ne (Ne.symm hj)] at e
      have z := h.var j s e
      cases s with
      | no => trivial
      | par d => exact z
      | own d =>
        obtain ⟨w, e3, e4⟩ := z
        refine ⟨w, e3, ?_⟩
        rw [fupd_vv hj]
        exact e4
      | view o' d =>
        obtain ⟨z1, w, e3, e4⟩ := z
        refine ⟨z1, w, e3, ?_⟩
        rw [fupd_ne (fun z => noView_mem h1 _ (List.mem_of_getElem? e) d (by rw [z]))]
        exact e4
  · have z := h.tmp j s e
    have ms : s ∈ ts := List.mem_reverse.mp (List.mem_of_getElem? e)
    cases s with
    | no => trivial
    | par d => exact z
    | own d =>
      obtain ⟨w, e3, e4⟩ := z
      refine ⟨w, e3, ?_⟩
      rw [fupd_tv]
      exact e4
    | view o' d =>
      obtain ⟨z1, w, e3, e4⟩ := z
      refine ⟨z1, w, e3, ?_⟩
      rw [fupd_ne (fun z => noView_mem h2 _ ms d (by rw [z]))]
      exact e4
  · show a ∈ (if o = .v i then [] else fp o) → a ∈ (if o' = .v i then [] else fp o') → o = o'
    by_cases h1 : o = .v i
    · rw [if_pos h1]; exact fun z => nomatch z
    · by_cases h2 : o' = .v i
      · rw [if_pos h2]; exact fun _ z => nomatch z
      · rw [if_neg h1, if_neg h2]; exact h.disj o o' a
  · show (if o = .v i then [] else fp o).Nodup
    split
    · exact List.nodup_nil
    · exact h.nod o
  · show a ∈ (if o = .v i then [] else fp o) → _
    split
    · exact fun z => nomatch z
    · exact h.out o a
  · show a ∈ (if o = .v i then [] else fp o) → _
    split
    · exact fun z => nomatch z
    · exact h.dom o a
section
variable {X : Cx} {fx : List Nat} {ss ts : List Slot} {Φ : List Slot → Slot → Prop} {a b : Expr} {pos : Pos} {E : DE} {sts : List Stmt}
/-- flat data from outside in slot i, as the slot's own -/
theorem sv_ownP (i : Nat) {d : D} (h : SV X fx sts (ss.set i (.own d)) ts E) (hs : ss[i]? = some (.par d) := by rfl) (hf : d.flat = true := by rfl) (h1 : noView (.v i) ss = true := by rfl) (h2 : noView (.v i) ts = true := by rfl) : SV X fx sts ss ts E := fun B σ tv H D ⟨fp, hh⟩ k =>
  h B σ tv H D ⟨_, hh.ownP hs hf h1 h2⟩ k
theorem eModN (h : EV X a ss ts fun s1 r1 => EV X b s1 (r1 :: ts) fun s r2 => i2K (fun i j => j ≠ 0 ∧ Φ s (.own (.int (i.fmod j)))) r1 r2) : EV X (.BinOp a .Mod b pos) ss ts Φ :=
  ev_modN (h.imp fun s1 r1 h1 => h1.imp fun s r2 h2 => by
    obtain ⟨i, j, rfl, rfl, q⟩ := i2K_of h2
    exact ⟨i, j, Slot.is_own, Slot.is_own, q⟩)
theorem eDivN (h : EV X a ss ts fun s1 r1 => EV X b s1 (r1 :: ts) fun s r2 => i2K (fun i j => (j ≠ 0 ∧ j.natAbs.log2 < 9000) ∧ Φ s (.own (.int (i.fdiv j)))) r1 r2) : EV X (.BinOp a .FloorDiv b pos) ss ts Φ :=
  ev_fdivN (h.imp fun s1 r1 h1 => h1.imp fun s r2 h2 => by
    obtain ⟨i, j, rfl, rfl, q⟩ := i2K_of h2
    exact ⟨i, j, Slot.is_own, Slot.is_own, q⟩)
end
@[reducible] def Slot.dd : Slot → Option D
  | .own d => some d
  | .par d => some d
  | .view _ d => some d
  | .no => none
theorem Slot.dd_is {r : Slot} {d : D} (h : r.dd = some d) : r.is d := by
  cases r with
  | no => cases h
  | own _ => cases h; exact Slot.is_own
  | par _ => cases h; exact Slot.is_par
  | view _ _ => cases h; exact Slot.is_view
@[reducible] def d1K (k : D → Prop) (r : Slot) : Prop := match r.dd with
  | some d => k d
  | none => False
theorem d1K_of {k : D → Prop} {r : Slot} (h : d1K k r) : ∃ d, r.is d ∧ k d := by
  unfold d1K at h
  split at h
  · rename_i d e
    exact ⟨d, Slot.dd_is e, h⟩
  · exact h.elim
section
variable {X : Cx} {fx : List Nat} {ss ts : List Slot} {Φ : List Slot → Slot → Prop} {Θ : List Slot → Bool → Prop} {a b e : Expr} {pos p px : Pos} {E : DE} {x : Str} {tg l : Expr} {Ψ : List Slot → List Slot → List El → Prop}
theorem tEqP (hu : X.A.units + 64 < cLine) (h : EV X a ss ts fun s1 r1 => EV X b s1 (r1 :: ts) fun s r2 => d1K (fun d1 => d1K (fun d2 => d1.pl 16 = true ∧ d2.pl 16 = true ∧ Θ s (deq d1 d2)) r2) r1) : TV X (.Compare a [.Eq] [b] pos) ss ts Θ :=
  tv_eqP 16 (by decide) hu (h.imp fun s1 r1 h1 => h1.imp fun s r2 h2 => by
    obtain ⟨d1, e1, h3⟩ := d1K_of h2
    obtain ⟨d2, e2, h4⟩ := d1K_of h3
    exact ⟨d1, d2, e1, e2, h4⟩)
theorem tNeP (hu : X.A.units + 64 < cLine) (h : EV X a ss ts fun s1 r1 => EV X b s1 (r1 :: ts) fun s r2 => d1K (fun d1 => d1K (fun d2 => d1.pl 16 = true ∧ d2.pl 16 = true ∧ Θ s (!deq d1 d2)) r2) r1) : TV X (.Compare a [.NotEq] [b] pos) ss ts Θ :=
  tv_neP 16 (by decide) hu (h.imp fun s1 r1 h1 => h1.imp fun s r2 h2 => by
    obtain ⟨d1, e1, h3⟩ := d1K_of h2
    obtain ⟨d2, e2, h4⟩ := d1K_of h3
    exact ⟨d1, d2, e1, e2, h4⟩)
theorem eEqP (hu : X.A.units + 64 < cLine) (h : EV X a ss ts fun s1 r1 => EV X b s1 (r1 :: ts) fun s r2 => d1K (fun d1 => d1K (fun d2 => d1.pl 16 = true ∧ d2.pl 16 = true ∧ Φ s (.own (.bl (deq d1 d2)))) r2) r1) : EV X (.Compare a [.Eq] [b] pos) ss ts Φ :=
  ev_eqP 16 (by decide) hu (h.imp fun s1 r1 h1 => h1.imp fun s r2 h2 => by
    obtain ⟨d1, e1, h3⟩ := d1K_of h2
    obtain ⟨d2, e2, h4⟩ := d1K_of h3
    exact ⟨d1, d2, e1, e2, h4⟩)
/-- isinstance(e, T), T a built-in type; the answer b -/
theorem eIsi (t : String) (b : Bool) (hm : X.mg "isinstance" = none) (hx : X.mg x = none) (h : EV X e ss ts fun s r => d1K (fun d => ∃ n, d.tyN = some n ∧ kitB n t = some b ∧ Φ s (.own (.bl b))) r)
    (hv : bootBuiltins x = some (.type t) := by decide +kernel) (hg : Gl X "isinstance" := by rfl) (hgx : Gl X x := by rfl) (hn : x ≠ "__name__" := by decide) (hd : (x == ("__debug__" : Str)) = false := by decide)
    (hs : starEach [e, .Name x px] X.env = (false, eval e X.env) :: starEach [.Name x px] X.env := by rfl) (hs2 : starEach [.Name x px] X.env = (false, eval (.Name x px) X.env) :: starEach [] X.env := by rfl) (hpl : (backTo pos (starEach [.Name x px] X.env)).any (·.1) = false := by rfl) : EV X (.Call (.Name "isinstance" p) [e, .Name x px] [] pos) ss ts Φ :=
  ev_isi hg hm (h.imp fun s r h => by
    obtain ⟨d, e1, n, e2, e3, q⟩ := d1K_of h
    exact ev_ty hgx hx hv ⟨d, n, t, b, e1, e2, Slot.is_own, kit_ty e3, q⟩ hn hd) hs hs2 hpl
theorem eIn (h : EV X a ss ts fun s1 r1 => EV X b s1 (r1 :: ts) fun s r2 => d1K (fun d1 => seqK (fun l => ∃ x xs, d1.sc = some x ∧ l.mapM D.sc = some xs ∧ Θ s (inV x xs)) r2) r1) (hb : behindInMarks .In b = false := by rfl) : TV X (.Compare a [.In] [b] pos) ss ts Θ :=
  tv_in (h.imp fun s1 r1 h1 => h1.imp fun s r2 h2 => by
    obtain ⟨d1, e1, h3⟩ := d1K_of h2
    obtain ⟨d2, l, e2, e3, x, xs, e4, e5, q⟩ := seqK_of h3
    exact ⟨d1, d2, x, l, xs, e1, e2, e4, e3, e5, q⟩) hb
/-- a list of flat data is walked -/
theorem wLst (h : EV X l ss ts fun s r => d1K (fun d => ∃ ds, d = .lst ds ∧ (∀ d ∈ ds, d.flat = true) ∧ Ψ s [r] (ds.map fun d => .one (.own d))) r) : IV X tg l ss ts Ψ :=
  iv_listF (h.imp fun s r h => by
    obtain ⟨d, e, ds, rfl, q⟩ := d1K_of h
    exact ⟨ds, e, q⟩)
theorem wRange {a : Expr} (hm : X.mg "range" = none) (h : EV X a ss ts fun s r => i1K (fun j => (-(2 ^ 62) ≤ j ∧ j < 2 ^ 62) ∧ Ψ s [] ((List.range j.toNat).map fun k => .one (.own (.int ((k : Nat) : Int))))) r) (hg : Gl X "range" := by rfl)
    (hs : starEach [a] X.env = [(false, eval a X.env)] := by rfl) : IV X tg (.Call (.Name "range" p) [a] [] pos) ss ts Ψ :=
  iv_range1 hg hm (h.imp fun s r h => by
    obtain ⟨i, rfl, q1, q2⟩ := i1K_of h
    exact ⟨i, Slot.is_own, q1.1, q1.2, q2⟩) hs
variable {k j : Nat} {ps : List Str} {f : Addr} {fd : FuncData} {dds : List D}
/-- f() -/
theorem cCall0 {F : List D → (D → Prop) → Prop} (C : DefAt X.prog X.w X.K X.mg X.base CX0 k x ps f fd dds F) (hr : Room j X.A) (hj : k ≤ j) (h : F dds fun d => Φ ss (.own d)) (hg : Gl X x := by rfl)
    (hdb : (x == ("__debug__" : Str)) = false := by decide) : EV X (.Call (.Name x p) [] [] pos) ss ts Φ := fun m B σ tv H Q hm hh kk => by
  obtain ⟨dvs, dfl, b1, b2, b3⟩ := C.bd
  refine toE (pe_call0 C.ok (hr.mono hj) hg C.nm C.kp b1 b2 pass0 hdb) ?_
  show spP X.K F ([] ++ dvs) H Q E0
  refine spP_use (b3 H) h fun d v H2 q n => ?_
  exact kk ss _ v H2 q (hh.new n)
end
theorem atI_if {x y : Int} {b : Bool} : atI [D.int x, D.int y] (if b = true then 1 else 0) = some (.int (if b = true then y else x)) := by cases b <;> rfl
theorem atI_b {x y : Int} {r : Int} (h0 : 0 ≤ r) (h1 : r < 2) : atI [D.int x, D.int y] r = some (.int (if r = 1 then y else x)) := by
  have : r = 0 ∨ r = 1 := by omega
  rcases this with rfl | rfl <;> rfl
theorem pl_fr {x : Int × Int} : (fr x).pl 16 = true := rfl
theorem pl_lfr {l : List (Int × Int)} : (D.lst (l.map fr)).pl 16 = true := pl_lst (pls_map fun _ _ => rfl)
end DL
/-! The data layer, part 15: calls with keywords in short. -/
namespace DL
open PySem PySem.Spec PyProof.Rows L2
/-- the items at these places -/
@[reducible] def pick {α : Type} : List Nat → List α → List α
  | [], _ => []
  | i :: is, l => match l[i]? with
    | some x => x :: pick is l
    | none => pick is l
theorem pick_vals : ∀ {is : List Nat} {vs : List V} {us : List Value}, Vals vs us → Vals (pick is vs) (pick is us)
  | [], _, _, _ => .nil
  | i :: is, vs, us, r => by
    have hl := r.length
    unfold pick
    cases e : vs[i]? with
    | none =>
      have e2 : us[i]? = none := by
        rw [List.getElem?_eq_none_iff] at e ⊢
        omega
      rw [e2]
      exact pick_vals r
    | some x =>
      obtain ⟨u, e2, r2⟩ := r.get e
      rw [e2]
      exact .cons r2 (pick_vals r)
theorem pick_reps {K : PySem.W.Frag} {H : Hp} : ∀ {is : List Nat} {ds : List D} {vs : List V}, RepRs K H ds vs → RepRs K H (pick is ds) (pick is vs)
  | [], _, _, _ => by unfold pick; exact reps_nil
  | i :: is, ds, vs, r => by
    have hl := r.length
    unfold pick
    cases e : ds[i]? with
    | none =>
      have e2 : vs[i]? = none := by
        rw [List.getElem?_eq_none_iff] at e ⊢
        omega
      rw [e2]
      exact pick_reps r
    | some x =>
      obtain ⟨u, e2, r2⟩ := r.get e
      rw [e2]
      exact reps_cons r2 (pick_reps r)
/-- a def as a call with n positional values and the keywords ks sees it; dds: its defaults; is: the places of the parameters among positional values, defaults, keywords' values -/
structure DefK (P : Program) (w : World) (K : PySem.W.Frag) (mg : Str → Option Value) (base : Heap) (CX : CXT) (k : Nat) (x : Str) (ps : List Str) (f : Addr) (fd : FuncData) (n : Nat) (ks : List Str) (is : List Nat) (dds : List D) (F : List D → (D → Prop) → Prop) : Prop where
  ok : FnOk P w K mg base CX k f fd ps (spP K F)
  nm : mg x = some (.ref f)
  kp : PySem.W.keepIn K (.ref f) = true
  kb : ∃ (its : List Value) (dvs : List V), KBn K fd ps n ks (fun us ws => pick is (us ++ its ++ ws)) (fun vs zs => pick is (vs ++ dvs ++ zs)) ∧ ∀ H, RepRs K H dds dvs
section
variable {X : Cx} {fx : List Nat} {ss ts : List Slot} {Φ : List Slot → Slot → Prop} {e : Expr} {es : List Expr} {pos p : Pos} {x : Str} {k j n : Nat} {ps ks : List Str} {is : List Nat} {f : Addr} {fd : FuncData} {dds : List D} {F : List D → (D → Prop) → Prop} {kws : List Keyword}
/-- f(k = v, ..) -/
theorem cCallK0 (C : DefK X.prog X.w X.K X.mg X.base CX0 k x ps f fd 0 ks is dds F) (hr : Room j X.A) (hj : k ≤ j) (h : KV X kws ss ts fun s rs => allK rs fun ds => ds.length = ks.length ∧ F (pick is (dds ++ ds)) fun d => Φ s (.own d)) (hg : Gl X x := by rfl)
    (hall : (backToKw pos (keywordEach kws X.env)).all (·.1.isSome) = true := by rfl) (hks : (backToKw pos (keywordEach kws X.env)).filterMap (·.1) = ks := by rfl)
    (hdb : (x == ("__debug__" : Str)) = false := by decide)
    (hpl : ((backTo pos (starEach [] X.env)).any (·.1) || (backToKw pos (keywordEach kws X.env)).any (·.1.isNone)) = false := by rfl) : EV X (.Call (.Name x p) [] kws pos) ss ts Φ := by
  obtain ⟨its, dvs, b1, b2⟩ := C.kb
  refine ev_callK0 C.ok (hr.mono hj) hg C.nm C.kp b1 pass0 (fun es => pick is (dds ++ es)) (fun H zs es r _ => ?_) (fun m B σ tv H Q hm hh k => h m B σ tv H Q hm hh fun s rs vs H' q => k s rs vs H' (allK_of q)) hall hks hdb hpl
  exact pick_reps ((b2 H).append r)
/-- f(e, .., k = v, ..) -/
theorem cCallK (C : DefK X.prog X.w X.K X.mg X.base CX0 k x ps f fd n ks is dds F) (hr : Room j X.A) (hj : k ≤ j) (h : AV X (e :: es) ss ts fun s1 rs1 => KV X kws s1 (rs1.reverse ++ ts) fun s rs => allK rs1 fun ds => allK rs fun zs => (ds.length = n ∧ zs.length = ks.length) ∧ F (pick is (ds ++ dds ++ zs)) fun d => Φ s (.own d)) (hg : Gl X x := by rfl)
    (hall : (backToKw pos (keywordEach kws X.env)).all (·.1.isSome) = true := by rfl) (hks : (backToKw pos (keywordEach kws X.env)).filterMap (·.1) = ks := by rfl)
    (hdb : (x == ("__debug__" : Str)) = false := by decide) (he : starEach (e :: es) X.env = (false, eval e X.env) :: starEach es X.env := by rfl)
    (hpl : ((backTo pos (starEach (e :: es) X.env)).any (·.1) || (backToKw pos (keywordEach kws X.env)).any (·.1.isNone)) = false := by rfl) : EV X (.Call (.Name x p) (e :: es) kws pos) ss ts Φ := by
  obtain ⟨its, dvs, b1, b2⟩ := C.kb
  refine ev_callK C.ok (hr.mono hj) hg C.nm C.kp b1 pass0 (fun ds es => pick is (ds ++ dds ++ es)) (fun H vs zs ds es r1 r2 _ _ => pick_reps ((r1.append (b2 H)).append r2)) (fun m B σ tv H Q hm hh k => h m B σ tv H Q hm hh fun s1 rs1 vs1 H1 q l1 l2 hh1 => k s1 rs1 vs1 H1 (fun m B σ tv H Q hm hh k => q m B σ tv H Q hm hh fun s rs vs H' q2 => k s rs vs H' (by
    obtain ⟨ds, i1, q3⟩ := allK_of q2
    obtain ⟨zs, i2, q4, q5⟩ := allK_of q3
    exact ⟨ds, zs, i1, i2, q4.1, q4.2, q5⟩)) l1 l2 hh1) hall hks hdb he hpl
end
section
variable {K : PySem.W.Frag} {x qual : Str} {params : Arguments} {body : List Stmt} {scope : Scope} {dvs : List V} {f : Addr} {fd : FuncData} {ps : List Str}
theorem kbN (F : FunD K x qual params body scope [] [] f fd) (n : Nat) (ks : List Str) (is : List Nat) (h : ∀ (kV doc pm : Value) (an : Option Addr) (cdv ct : Value) (us ws : List Value), us.length = n → ws.length = ks.length →
      bindArgs (PySem.W.fnOf x qual params body scope .none kV doc pm an cdv ct) ⟨us, ks.zip ws⟩ = pure (ps.zip (pick is (us ++ [] ++ ws)))) :
    ∃ (its : List Value) (dvs : List V), KBn K fd ps n ks (fun us ws => pick is (us ++ its ++ ws)) (fun vs zs => pick is (vs ++ dvs ++ zs)) ∧ ∀ H, RepRs K H [] dvs := by
  obtain ⟨oc, od, dV, kV, doc, pm, an, cdv, ct, osl, rfl, lk, hcd, hD, hK⟩ := F.ex
  rcases hD with ⟨_, rfl⟩ | ⟨e, _⟩
  · exact ⟨[], [], ⟨fun s us ws X l1 l2 => .of_eq (h kV doc pm an cdv ct us ws l1 l2), fun r1 r2 => pick_vals ((r1.append .nil).append r2)⟩, fun H => reps_nil⟩
  · exact absurd rfl e
theorem kbD (F : FunD K x qual params body scope dvs [] f fd) (n : Nat) (ks : List Str) (is : List Nat) (dds : List D) (hd : dvs ≠ []) (hr : ∀ H, RepRs K H dds dvs)
    (h : ∀ (T : Addr) (kV doc pm : Value) (an : Option Addr) (cdv ct : Value) (us its ws : List Value), us.length = n → its.length = dvs.length → ws.length = ks.length →
      ∃ k, bindArgs (PySem.W.fnOf x qual params body scope (.ref T) kV doc pm an cdv ct) ⟨us, ks.zip ws⟩ = seqItems? (.ref T) >>= k ∧ k (some its.toArray) = pure (ps.zip (pick is (us ++ its ++ ws)))) :
    ∃ (its : List Value) (dvs : List V), KBn K fd ps n ks (fun us ws => pick is (us ++ its ++ ws)) (fun vs zs => pick is (vs ++ dvs ++ zs)) ∧ ∀ H, RepRs K H dds dvs := by
  obtain ⟨its, b⟩ := kb_of F n ks (fun us ds ws => pick is (us ++ ds ++ ws)) hd (fun r1 r2 r3 => pick_vals ((r1.append r2).append r3)) h
  exact ⟨its, dvs, b, hr⟩
end
end DL
/-! The data layer, part 16: the head's hook with tables. -/
namespace DL
open PySem PySem.Spec PyProof.Rows L2
abbrev AlT : Type := Bool × He.AlD
def obsT (tb : List (Str × List He.Dv)) (fa : List He.Fa) (fn : List He.DefD) (K : PySem.W.Frag) : AlT := (tb.all fun p => He.Fa.ok K (.glo p.1) && He.tupB K p.1 p.2, He.obsD fa fn K)
def SaysT (tb : List (Str × List He.Dv)) (fa : List He.Fa) (fn : List He.DefD) (K : PySem.W.Frag) : Prop := obsT tb fa fn K = (true, He.valD fn)
def obsTG (n : Nat) (tb : List (Str × List He.Dv)) (fa : List He.Fa) (fn : List He.DefD) (g : Addr → Option Obj) : AlT := obsT tb fa fn (He.frG g (He.asD g n))
def hookT (n : Nat) (tb : List (Str × List He.Dv)) (fa : List He.Fa) (fn : List He.DefD) : PySem.W.Hook where
  α := AlT
  obs := fun s => obsTG n tb fa fn s.heap.get?
  val := fun _ => (true, He.valD fn)
  says := fun _ h => ∃ K : PySem.W.Frag, K.In h ∧ SaysT tb fa fn K
  of := fun _ _ e => ⟨_, He.frG_in, e⟩
  keeps := fun _ _ _ ⟨K, hK, c⟩ k => ⟨K, PySem.W.Frag.In.keeps hK k, c⟩
theorem obsTG_eq {n : Nat} {tb : List (Str × List He.Dv)} {fa : List He.Fa} {fn : List He.DefD} {g : Addr → Option Obj} {s : Shared} (h : ∀ a, g a = s.heap.get? a) : obsTG n tb fa fn g = (hookT n tb fa fn).obs s := by
  have e : g = s.heap.get? := funext h
  rw [e] <;> rfl
section
variable {tb : List (Str × List He.Dv)} {fa : List He.Fa} {fn : List He.DefD} {K : PySem.W.Frag}
theorem SaysT.says (c : SaysT tb fa fn K) : He.SaysD fa fn K := congrArg (fun z : AlT => z.2) c
theorem SaysT.tup (c : SaysT tb fa fn K) (i : Nat) {p : Str × List He.Dv} (h : tb[i]? = some p := by rfl) : He.Fa.ok K (.glo p.1) = true ∧ He.tupB K p.1 p.2 = true := by
  have c1 : (tb.all fun p => He.Fa.ok K (.glo p.1) && He.tupB K p.1 p.2) = true := congrArg (fun z : AlT => z.1) c
  exact He.ba (List.all_eq_true.mp c1 p (List.mem_of_getElem? h))
/-- the module's name stands for a fraction -/
theorem SaysT.fr {h : Heap} {mg : Str → Option Value} (X : K.In h) (G : h.Ns mainGlobals mg) (c : SaysT tb fa fn K) (i : Nat) {x : Str} {p q : Int} (e : tb[i]? = some (x, [.int p, .int q]) := by rfl) : GloD K mg x (fr (p, q)) := by
  obtain ⟨c1, c2⟩ := c.tup i e
  refine ⟨_, .ref (He.ga K x), He.glo_ok X G c1, rfl, fun H => ?_⟩
  unfold RepO
  exact ⟨_, _, rfl, He.tupB_ok c2 H, reps_ofInts [p, q]⟩
end
theorem reps_int {K : PySem.W.Frag} {H : Hp} : ∀ ns : List Int, RepRs K H (ns.map D.int) (ns.map V.int)
  | [] => reps_nil
  | n :: ns => reps_cons r_int (DL.reps_int ns)
end DL
/-! Fractions as numbers: what the program's lowest, plus and product come to, over Rat. -/
namespace DL
/-- p over q, q below 0 or above: what lowest hands back -/
theorem lowest_num {p q : Int} (h : q ≠ 0) : (Rat.divInt p q).num = p.fdiv (if q < 0 then -(Int.gcd p q : Int) else (Int.gcd p q : Int)) := by
  have hg : (Int.gcd p q : Int) ∣ p := Int.gcd_dvd_left ..
  have h0 : 0 < Int.gcd p q := Nat.pos_of_ne_zero fun z => h (Int.gcd_eq_zero_iff.mp z).2
  rw [Rat.num_divInt, Int.gcd_comm q p]
  by_cases c : q < 0
  · rw [if_pos c, Int.sign_eq_neg_one_of_neg c, Int.fdiv_eq_ediv_of_dvd (Int.neg_dvd.mpr hg), Int.ediv_neg, Int.neg_mul, Int.one_mul, Int.neg_ediv_of_dvd hg]
  · rw [if_neg c, Int.sign_eq_one_of_pos (by omega), Int.fdiv_eq_ediv_of_dvd hg, Int.one_mul]
theorem lowest_den {p q : Int} (h : q ≠ 0) : ((Rat.divInt p q).den : Int) = q.fdiv (if q < 0 then -(Int.gcd p q : Int) else (Int.gcd p q : Int)) := by
  have hg : (Int.gcd p q : Int) ∣ q := Int.gcd_dvd_right ..
  have h0 : 0 < Int.gcd p q := Nat.pos_of_ne_zero fun z => h (Int.gcd_eq_zero_iff.mp z).2
  rw [Rat.den_divInt, if_neg h, Int.gcd_comm q p, Int.natCast_ediv]
  by_cases c : q < 0
  · rw [if_pos c, Int.fdiv_eq_ediv_of_dvd (Int.neg_dvd.mpr hg), Int.ediv_neg, show ((q.natAbs : Nat) : Int) = -q by omega, Int.neg_ediv_of_dvd hg]
  · rw [if_neg c, Int.fdiv_eq_ediv_of_dvd hg, show ((q.natAbs : Nat) : Int) = q by omega]
/-- a rest of 0: a whole number -/
theorem lowest_whole {p q : Int} (h : q ≠ 0) (e : p.fmod q = 0) : (Rat.divInt p q).num = p.fdiv q ∧ ((Rat.divInt p q).den : Int) = 1 := by
  have hd : q ∣ p := Int.dvd_of_fmod_eq_zero e
  have e1 : (Int.gcd p q : Int) = q.natAbs := by
    have e : Int.gcd p q = Nat.gcd p.natAbs q.natAbs := rfl
    rw [e, Nat.gcd_eq_right (Int.natAbs_dvd_natAbs.mpr hd)]
  have e2 : (if q < 0 then -(Int.gcd p q : Int) else (Int.gcd p q : Int)) = q := by
    rw [e1]
    split <;> omega
  rw [lowest_num h, lowest_den h, e2]
  exact ⟨rfl, Int.fdiv_self h⟩
theorem den_pos (a : Rat) : (0 : Int) < (a.den : Int) := Int.natCast_pos.mpr a.den_pos
theorem den_ne (a : Rat) : (a.den : Int) ≠ 0 := by have := den_pos a; omega
theorem add_divInt (a b : Rat) : Rat.divInt (a.num * b.den + b.num * a.den) (a.den * b.den) = a + b := by
  rw [← Rat.divInt_add_divInt _ _ (den_ne a) (den_ne b), Rat.num_divInt_den, Rat.num_divInt_den]
theorem mul_divInt (a b : Rat) : Rat.divInt (a.num * b.num) (a.den * b.den) = a * b := by
  rw [← Rat.divInt_mul_divInt, Rat.num_divInt_den, Rat.num_divInt_den]
theorem div_divInt (a b : Rat) : Rat.divInt (a.num * b.den) (a.den * b.num) = a / b := by
  rw [← Rat.divInt_mul_divInt, Rat.num_divInt_den, ← Rat.inv_divInt, Rat.num_divInt_den, Rat.div_def]
theorem divInt_num_le {p q : Int} (h : q ≠ 0) : (Rat.divInt p q).num.natAbs ≤ p.natAbs := by
  have hg : (Int.gcd p q : Int) ∣ p := Int.gcd_dvd_left ..
  have h0 : 0 < Int.gcd p q := Nat.pos_of_ne_zero fun z => h (Int.gcd_eq_zero_iff.mp z).2
  rw [lowest_num h]
  split
  · rw [Int.fdiv_eq_ediv_of_dvd (Int.neg_dvd.mpr hg), Int.ediv_neg, Int.natAbs_neg]
    exact div_le (by omega) hg
  · rw [Int.fdiv_eq_ediv_of_dvd hg]
    exact div_le (by omega) hg
theorem divInt_den_le {p q : Int} (h : q ≠ 0) : ((Rat.divInt p q).den : Int).natAbs ≤ q.natAbs := by
  have hg : (Int.gcd p q : Int) ∣ q := Int.gcd_dvd_right ..
  have h0 : 0 < Int.gcd p q := Nat.pos_of_ne_zero fun z => h (Int.gcd_eq_zero_iff.mp z).2
  rw [lowest_den h]
  split
  · rw [Int.fdiv_eq_ediv_of_dvd (Int.neg_dvd.mpr hg), Int.ediv_neg, Int.natAbs_neg]
    exact div_le (by omega) hg
  · rw [Int.fdiv_eq_ediv_of_dvd hg]
    exact div_le (by omega) hg
/-- below 2^b, top and bottom -/
structure Sz (b : Nat) (x : Rat) : Prop where
  top : x.num.natAbs < 2 ^ b
  bot : (x.den : Int).natAbs < 2 ^ b
theorem Sz.up {a b : Nat} {x : Rat} (h : Sz a x) (hb : a ≤ b) : Sz b x := ⟨lt_up h.top hb, lt_up h.bot hb⟩
theorem Sz.neg {b : Nat} {x : Rat} (h : Sz b x) : Sz b (-x) := ⟨by rw [Rat.neg_num, Int.natAbs_neg]; exact h.top, by rw [Rat.neg_den]; exact h.bot⟩
theorem Sz.of {b : Nat} {p q : Int} (h : q ≠ 0) (h1 : p.natAbs < 2 ^ b) (h2 : q.natAbs < 2 ^ b) : Sz b (Rat.divInt p q) := ⟨Nat.lt_of_le_of_lt (divInt_num_le h) h1, Nat.lt_of_le_of_lt (divInt_den_le h) h2⟩
theorem Sz.add {a b : Nat} {x y : Rat} (h : Sz a x) (k : Sz b y) : Sz (a + b + 1) (x + y) := by
  rw [← add_divInt]
  refine .of (Int.mul_ne_zero (den_ne x) (den_ne y)) (lt_add (lt_mul h.top k.bot) ?_) (lt_up (lt_mul h.bot k.bot) (by omega))
  rw [Int.mul_comm]
  exact lt_mul h.bot k.top
theorem Sz.mul {a b : Nat} {x y : Rat} (h : Sz a x) (k : Sz b y) : Sz (a + b) (x * y) := by
  rw [← mul_divInt]
  exact .of (Int.mul_ne_zero (den_ne x) (den_ne y)) (lt_mul h.top k.top) (lt_mul h.bot k.bot)
theorem Sz.div {a b : Nat} {x y : Rat} (h : Sz a x) (k : Sz b y) (hy : y.num ≠ 0) : Sz (a + b) (x / y) := by
  rw [← div_divInt]
  exact .of (Int.mul_ne_zero (den_ne x) hy) (lt_mul h.top k.bot) (lt_mul h.bot k.top)
theorem Sz.sub {a b : Nat} {x y : Rat} (h : Sz a x) (k : Sz b y) : Sz (a + b + 1) (x - y) := by
  rw [Rat.sub_eq_add_neg]
  exact h.add k.neg
end DL
/-! The data layer, part 17: divmod of any sign; fractions as numbers. -/
namespace DL
open PySem PySem.Spec PyProof.Rows L2
theorem call_divmodN {X : Cx} : CallR X (.builtin "divmod") (fun xs H Q => ∃ i j, xs = [.int i, .int j] ∧ (j ≠ 0 ∧ j.natAbs.log2 < 9000) ∧ ∀ p, H p = none → Q (.ref p) (upd H p (.tup [.int (i.fdiv j), .int (i.fmod j)]))) := by
  intro pins s σ H xs us Q I r h
  obtain ⟨i, j, rfl, ⟨h1, h2⟩, q⟩ := h
  obtain ⟨u, w', rfl, ⟨t, rfl⟩, ⟨t', rfl⟩⟩ := vals2 r
  refine divmod_int h1 ?_ (.inl (PyProof.noPylong_of_log2 h2))
  have hn : H s.heap.objs.size = none := I.hok.fresh (Nat.le_refl _)
  refine ⟨.ref s.heap.objs.size, _, ?_, rfl, q _ hn⟩
  refine I.laid (fun b o e => Heap.get?_push_of_some _ e) (Nat.le_refl _) ⟨by simp only [List.length_cons, List.length_nil]; rw [sizeLine_eq]; decide, [.int (i.fdiv j) s.toks, .int (i.fmod j) (s.toks + 1)], .cons ⟨_, rfl⟩ (.cons ⟨_, rfl⟩ .nil), ?_⟩
  exact ⟨_, Heap.get?_push_size s.heap rfl, rfl, 0, rfl⟩
section
variable {X : Cx} {ss ts : List Slot} {Φ : List Slot → Slot → Prop} {a b : Expr} {pos p : Pos}
theorem eDivmodN (hm : X.mg "divmod" = none) (h : EV X a ss ts fun s1 r1 => EV X b s1 (r1 :: ts) fun s r2 => i2K (fun i j => (j ≠ 0 ∧ j.natAbs.log2 < 9000) ∧ Φ s (.own (.tup [.int (i.fdiv j), .int (i.fmod j)]))) r1 r2) (hg : Gl X "divmod" := by rfl)
    (he : starEach [a, b] X.env = (false, eval a X.env) :: starEach [b] X.env := by rfl) (he2 : starEach [b] X.env = (false, eval b X.env) :: starEach [] X.env := by rfl) (hpl : (backTo pos (starEach [b] X.env)).any (·.1) = false := by rfl) : EV X (.Call (.Name "divmod" p) [a, b] [] pos) ss ts Φ :=
  ev_callB call_divmodN hg hm (by decide +kernel) (av_cons (h.imp fun s1 r1 h1 => av_cons (h1.imp fun s r2 h2 => by
    obtain ⟨i, j, rfl, rfl, hc, q⟩ := i2K_of h2
    refine av_nil ⟨[.int i, .int j], fun d => d = .tup [.int (i.fdiv j), .int (i.fmod j)], ⟨Slot.is_own, Slot.is_own, trivial⟩, fun H vs Q rr k => ?_, fun d hd => by rw [hd]; exact q⟩
    obtain ⟨v, w, rfl, hv, hw⟩ := reps2 rr
    rw [rep_int] at hv hw
    exact ⟨i, j, by rw [hv, hw], hc, fun p hp => k _ _ _ rfl (.tup hp fun H => reps_ofInts [i.fdiv j, i.fmod j])⟩) he2) he) (he := he) (hpl := hpl)
end
/-- a fraction in lowest terms -/
@[reducible] def fq (x : Rat) : D := .tup [.int x.num, .int (x.den : Int)]
theorem pl_fq {x : Rat} : (fq x).pl 16 = true := rfl
theorem pl_lfq {l : List Rat} : (D.lst (l.map fq)).pl 16 = true := pl_lst (pls_map fun _ _ => rfl)
theorem fq_inj {x y : Rat} (h : fq x = fq y) : x = y := by
  unfold fq at h
  injection h with h
  injection h with h1 h2
  injection h2 with h2 _
  injection h1 with h1
  injection h2 with h2
  exact Rat.ext h1 (Int.ofNat_inj.mp h2)
theorem flats_fq : ∀ l : List Rat, D.flats (l.map fq) = true
  | [] => by unfold D.flats; rfl
  | x :: l => by rw [List.map_cons]; unfold D.flats; rw [flats_fq l]; rfl
end DL
/-! zip(.., strict=True) of two lists of one length (own twin of the library's plain zip). -/
namespace DZ
open PySem
section
variable {prog : Program} {w : World} {A : Around} {E : Value → Shared → Prop} {s : Shared}
theorem orEnd_item {it l : Addr} {i : Nat} {its : Array Value} {x : Value} {Q : Option Value → Shared → Prop} (hit : s.heap.IsListIter it l i) (hl : s.heap.IsList l its) (hx : its[i]? = some x)
    (q : ∀ h', h'.IsListIter it l (i + 1) → Heap.SameBut it s.heap h' → Q (some x) { s with heap := h' }) : wpAny (model prog w) A (Builtin.SmallTypes.nextOrEnd (.ref it)) Q E s := by
  unfold Builtin.SmallTypes.nextOrEnd
  refine wpAny_bind (wpAny_attempt (wpAny_nextOf_list_item hit hl hx fun h' a b => ?_))
  exact wpAny_pure (q h' a b)
theorem orEnd_end {it l : Addr} {i : Nat} {its : Array Value} {Q : Option Value → Shared → Prop} (hh : A.handled = none) (hit : s.heap.IsListIter it l i) (hl : s.heap.IsList l its) (hx : its[i]? = none)
    (q : ∀ h', (∀ c o, c ≠ it → s.heap.get? c = some o → h'.get? c = some o) → Q none { s with heap := h' }) : wpAny (model prog w) A (Builtin.SmallTypes.nextOrEnd (.ref it)) Q E s := by
  unfold Builtin.SmallTypes.nextOrEnd
  refine wpAny_bind (wpAny_attempt (wpAny_nextOf_list_end hh hit hl hx fun h' e a b => ?_))
  obtain ⟨o, ho, hc⟩ := b
  refine wpAny_bind (wpAny_isInstance (T := "StopIteration") (b := true) ⟨o, ho, hc⟩ isSubtype_stop ?_)
  exact wpAny_pure (q h' a)
end
section
variable {prog : Program} {w : World} {A : Around} {E : Value → Shared → Prop} {s : Shared}
theorem stop_ok {α : Type} {Q : α → Shared → Prop} (hh : A.handled = none) (q : ∀ h' e, (∀ c o, s.heap.get? c = some o → h'.get? c = some o) → (∃ o, h'.get? e = some o ∧ o.cls = .type "StopIteration") → E (.ref e) { s with heap := h' }) :
    wpAny (model prog w) A (Builtin.SmallTypes.stopIteration : Sem α) Q E s := by
  show wpAny _ _ (newExc (.type "StopIteration") [] >>= fun e => raiseNew e) _ _ _
  refine wpAny_bind ?_
  simp only [newExc, newTuple]
  refine wpAny_bind (wpAny_newObj_type ?_ (by size_fits))
  refine wpAny_bind (m := firstArgMember _ _) (wpAny_of_eq (a := Value.none) (by first | rfl | (simp only [firstArgMember]; rfl)) ?_)
  refine wpAny_newObj_type ?_ (by size_fits)
  simp only [raiseNew]
  refine wpAny_bind (wpAny_handled ?_)
  first | rw [show A.in1.handled = none from hh] | rw [hh]
  refine wpAny_bind (wpAny_pure (wpAny_throw ?_))
  exact q _ _ (fun c o g => Heap.get?_push_of_some _ (Heap.get?_push_of_some _ g)) ⟨_, Heap.get?_push_size _ rfl, rfl⟩
end
abbrev SZip (h : Heap) (z TI TO : Addr) (f0 : Value) : Prop := h.get? z = some { cls := .type "zip", dict := none, data := .fields #[f0, .bool false, .bool true, .ref TI, .ref TO], slots := #[] }
section
variable {prog : Program} {w : World} {A : Around} {E : Value → Shared → Prop} {s : Shared}
theorem next_item {z TI TO i1 i2 l1 l2 : Addr} {m n : Nat} {xs ys : Array Value} {x y a b : Value} {Q : Value → Shared → Prop} (D : ZipApart z TI TO i1 i2 l1 l2)
    (kz : SZip s.heap z TI TO .none) (ki : IsPair s.heap TI (.ref i1) (.ref i2)) (ko : IsPair s.heap TO a b)
    (k1 : s.heap.IsListIter i1 l1 m) (k2 : s.heap.IsListIter i2 l2 n) (p1 : s.heap.IsList l1 xs) (p2 : s.heap.IsList l2 ys) (ex : xs[m]? = some x) (ey : ys[n]? = some y)
    (q : ∀ h', SZip h' z TI TO (rawInt s.heap.objs.size) → IsPair h' TO x y → h'.IsListIter i1 l1 (m + 1) → h'.IsListIter i2 l2 (n + 1) → IsPair h' s.heap.objs.size x y → h'.objs.size = s.heap.objs.size + 1 →
      (∀ c o, c ≠ z → c ≠ TO → c ≠ i1 → c ≠ i2 → s.heap.get? c = some o → h'.get? c = some o) → Q (.ref s.heap.objs.size) { s with heap := h' }) :
    wpAny (model prog w) A (Builtin.«zip.__next__» ⟨[.ref z], []⟩) (fun fin s' => ∃ v, fin = .done (.ret v) ∧ Q v s') E s := by
  show wpAny _ _ (field (.ref z) 2 >>= _) _ _ _
  refine wpAny_bind (wpAny_field kz rfl (x := .bool true) rfl ?_)
  show wpAny _ _ (field (.ref z) 3 >>= _) _ _ _
  refine wpAny_bind (wpAny_field kz rfl (x := .ref TI) rfl ?_)
  refine wpAny_bind (wpAny_seqItems ki rfl ?_)
  show wpAny _ _ (Builtin.SmallTypes.ownedTupleIsFree (.ref z) >>= _) _ _ _
  refine wpAny_bind ?_
  unfold Builtin.SmallTypes.ownedTupleIsFree
  refine wpAny_bind (wpAny_field kz rfl (x := .none) rfl (wpAny_pure ?_))
  simp only [if_true]
  refine wpAny_bind (wpAny_rule ?_)
  refine wpAny_bind (wpAny_field kz rfl (x := .ref TO) rfl ?_)
  refine wpAny_bind (wpAny_setField_rec kz (by simp) fun ha za sa => ?_)
  replace za : SZip ha z TI TO .ellipsis := za
  refine wpAny_bind ?_
  simp only [List.zipIdx_cons, List.zipIdx_nil, List.forIn_cons, List.forIn_nil]
  refine wpAny_bind (wpAny_bind (wpAny_onRaise ?_))
  show wpAny _ _ (Builtin.SmallTypes.nextOrEnd (.ref i1)) _ _ _
  refine orEnd_item (k1.extBut sa.extBut D.i1z) (p1.extBut sa.extBut D.l1z) ex fun hb ib sb => ?_
  have ob : IsPair hb TO a b := sb.extBut _ _ D.TOi1 (sa.extBut _ _ D.TOz ko)
  refine wpAny_bind (wpAny_seqItems ob rfl ?_)
  refine wpAny_bind (wpAny_updateSeq_pair ob fun hc oc sc => ?_)
  replace oc : IsPair hc TO x b := oc
  refine wpAny_bind (wpAny_letGo (wpAny_pure ?_))
  refine wpAny_bind (wpAny_bind (wpAny_onRaise ?_))
  show wpAny _ _ (Builtin.SmallTypes.nextOrEnd (.ref i2)) _ _ _
  refine orEnd_item (((k2.extBut sa.extBut D.i2z).extBut sb.extBut D.i12.symm).extBut sc.extBut D.TOi2.symm) (((p2.extBut sa.extBut D.l2z).extBut sb.extBut D.l2i1).extBut sc.extBut D.l2TO) ey fun hd jd sd => ?_
  have od : IsPair hd TO x b := sd.extBut _ _ D.TOi2 oc
  refine wpAny_bind (wpAny_seqItems od rfl ?_)
  refine wpAny_bind (wpAny_updateSeq_pair od fun he oe se => ?_)
  replace oe : IsPair he TO x y := oe
  refine wpAny_bind (wpAny_letGo (wpAny_pure (wpAny_pure ?_)))
  refine wpAny_bind (wpAny_seqItems oe rfl ?_)
  refine wpAny_bind (wpAny_newTuple ?_)
  have hsz : he.objs.size = s.heap.objs.size := by rw [se.1, sd.1, sc.1, sb.1, sa.1]
  have ze : SZip he z TI TO .ellipsis := se.extBut _ _ D.TOz.symm (sd.extBut _ _ D.i2z.symm (sc.extBut _ _ D.TOz.symm (sb.extBut _ _ D.i1z.symm za)))
  have kk : ∀ c o, c ≠ z → c ≠ TO → c ≠ i1 → c ≠ i2 → s.heap.get? c = some o → he.get? c = some o := fun c o c1 c2 c3 c4 e => se.extBut _ _ c2 (sd.extBut _ _ c4 (sc.extBut _ _ c2 (sb.extBut _ _ c3 (sa.extBut _ _ c1 e))))
  have f1 : he.IsListIter i1 l1 (m + 1) := ((ib.extBut sc.extBut D.TOi1.symm).extBut sd.extBut D.i12).extBut se.extBut D.TOi1.symm
  have f2 : he.IsListIter i2 l2 (n + 1) := jd.extBut se.extBut D.TOi2.symm
  have ltz : z < he.objs.size := Heap.lt_size ze
  show wpAny _ _ (Builtin.SmallTypes.ownedTupleHandOut (.ref z) (.ref he.objs.size) >>= _) _ _ _
  refine wpAny_bind ?_
  unfold Builtin.SmallTypes.ownedTupleHandOut
  have zf : SZip (he.push { cls := .type "tuple", data := .seq #[x, y] }) z TI TO .ellipsis := Heap.get?_push_of_some _ ze
  refine wpAny_bind (wpAny_setField_rec zf (by simp) fun hg zg sg => ?_)
  replace zg : SZip hg z TI TO (rawInt he.objs.size) := zg
  refine wpAny_setField_rec zg (by simp) fun hi zi si => ?_
  replace zi : SZip hi z TI TO (rawInt he.objs.size) := zi
  have up : ∀ c o, c ≠ z → he.get? c = some o → hi.get? c = some o := fun c o c1 e => si.extBut _ _ c1 (sg.extBut _ _ c1 (Heap.get?_push_of_some _ e))
  have ti : IsPair hi he.objs.size x y := si.extBut _ _ (Nat.ne_of_gt ltz) (sg.extBut _ _ (Nat.ne_of_gt ltz) (Heap.get?_push_size _ rfl))
  have zn : hi.objs.size = he.objs.size + 1 := by rw [si.1, sg.1, Heap.size_push]
  rw [hsz] at zi ti zn
  refine wpAny_pure ⟨_, rfl, ?_⟩
  show Q (.ref he.objs.size) _
  rw [hsz]
  exact q hi zi (up _ _ D.TOz oe) (f1.at fun o e => up _ o D.i1z e) (f2.at fun o e => up _ o D.i2z e) ti zn fun c o c1 c2 c3 c4 e => up c o c1 (kk c o c1 c2 c3 c4 e)
theorem next_end {z TI TO i1 i2 l1 l2 : Addr} {m n : Nat} {xs ys : Array Value} {a b : Value} {Q : Fin → Shared → Prop} (hh : A.handled = none) (D : ZipApart z TI TO i1 i2 l1 l2)
    (kz : SZip s.heap z TI TO .none) (ki : IsPair s.heap TI (.ref i1) (.ref i2)) (ko : IsPair s.heap TO a b)
    (k1 : s.heap.IsListIter i1 l1 m) (k2 : s.heap.IsListIter i2 l2 n) (p1 : s.heap.IsList l1 xs) (p2 : s.heap.IsList l2 ys) (ex : xs[m]? = none) (ey : ys[n]? = none)
    (q : ∀ h' e, (∀ c o, c ≠ z → c ≠ TO → c ≠ i1 → c ≠ i2 → s.heap.get? c = some o → h'.get? c = some o) → (∃ o, h'.get? e = some o ∧ o.cls = .type "StopIteration") → E (.ref e) { s with heap := h' }) :
    wpAny (model prog w) A (Builtin.«zip.__next__» ⟨[.ref z], []⟩) Q E s := by
  show wpAny _ _ (field (.ref z) 2 >>= _) _ _ _
  refine wpAny_bind (wpAny_field kz rfl (x := .bool true) rfl ?_)
  show wpAny _ _ (field (.ref z) 3 >>= _) _ _ _
  refine wpAny_bind (wpAny_field kz rfl (x := .ref TI) rfl ?_)
  refine wpAny_bind (wpAny_seqItems ki rfl ?_)
  show wpAny _ _ (Builtin.SmallTypes.ownedTupleIsFree (.ref z) >>= _) _ _ _
  refine wpAny_bind ?_
  unfold Builtin.SmallTypes.ownedTupleIsFree
  refine wpAny_bind (wpAny_field kz rfl (x := .none) rfl (wpAny_pure ?_))
  simp only [if_true]
  refine wpAny_bind (wpAny_rule ?_)
  refine wpAny_bind (wpAny_field kz rfl (x := .ref TO) rfl ?_)
  refine wpAny_bind (wpAny_setField_rec kz (by simp) fun ha za sa => ?_)
  replace za : SZip ha z TI TO .ellipsis := za
  refine wpAny_bind ?_
  simp only [List.zipIdx_cons, List.zipIdx_nil, List.forIn_cons, List.forIn_nil]
  refine wpAny_bind (wpAny_bind (wpAny_onRaise ?_))
  show wpAny _ _ (Builtin.SmallTypes.nextOrEnd (.ref i1)) _ _ _
  refine orEnd_end hh (k1.extBut sa.extBut D.i1z) (p1.extBut sa.extBut D.l1z) ex fun hb eb => ?_
  have zb : SZip hb z TI TO .ellipsis := eb _ _ D.i1z.symm za
  refine wpAny_bind (wpAny_setField_rec zb (by simp) fun hc zc sc => ?_)
  have yc : hc.IsListIter i2 l2 n := ((k2.extBut sa.extBut D.i2z).at fun o e => eb _ o D.i12.symm e).at fun o e => sc.extBut _ o D.i2z e
  have rc : hc.IsList l2 ys := ((p2.extBut sa.extBut D.l2z).at fun o e => eb _ o D.l2i1 e).at fun o e => sc.extBut _ o D.l2z e
  refine wpAny_bind ?_
  show wpAny _ _ (((Builtin.SmallTypes.nextOrEnd (.ref i2) >>= _) >>= _) >>= _) _ _ _
  refine wpAny_bind (wpAny_bind (wpAny_bind (orEnd_end hh yc rc ey fun hd ed => ?_)))
  rw [if_neg (by decide)]
  refine wpAny_pure ?_
  show wpAny _ _ (pure _) _ _ _
  refine wpAny_pure ?_
  refine wpAny_bind (wpAny_rule ?_)
  refine stop_ok hh fun he e ke ho => ?_
  exact q he e (fun c o c1 c2 c3 c4 g => ke c o (ed c o c4 (sc.extBut c o c1 (eb c o c3 (sa.extBut c o c1 g))))) ho
end
section
variable {prog : Program} {w : World} {A : Around} {E : Value → Shared → Prop} {s : Shared}
theorem pyNext_item {z TI TO i1 i2 l1 l2 : Addr} {m n : Nat} {xs ys : Array Value} {x y a b : Value} {Q : Option Value → Shared → Prop} (D : ZipApart z TI TO i1 i2 l1 l2)
    (kz : SZip s.heap z TI TO .none) (ki : IsPair s.heap TI (.ref i1) (.ref i2)) (ko : IsPair s.heap TO a b)
    (k1 : s.heap.IsListIter i1 l1 m) (k2 : s.heap.IsListIter i2 l2 n) (p1 : s.heap.IsList l1 xs) (p2 : s.heap.IsList l2 ys) (ex : xs[m]? = some x) (ey : ys[n]? = some y)
    (q : ∀ h', SZip h' z TI TO (rawInt s.heap.objs.size) → IsPair h' TO x y → h'.IsListIter i1 l1 (m + 1) → h'.IsListIter i2 l2 (n + 1) → IsPair h' s.heap.objs.size x y → h'.objs.size = s.heap.objs.size + 1 →
      (∀ c o, c ≠ z → c ≠ TO → c ≠ i1 → c ≠ i2 → s.heap.get? c = some o → h'.get? c = some o) → Q (some (.ref s.heap.objs.size)) { s with heap := h' }) : wpAny (model prog w) A (pyNext (.ref z)) Q E s := by
  have ty : s.TypeIs (.ref z) "zip" := ⟨_, kz, rfl⟩
  unfold pyNext
  refine wpAny_bind (wpAny_attempt (wpAny_callSpecial?_slot (name := Str.ofString "__next__") ty F.slot_zip_next (wpAny_call_entry F.slot_zip_next ty F.entry_zip_next (next_item D kz ki ko k1 k2 p1 p2 ex ey fun h' a1 a2 a3 a4 a5 a6 a7 => ?_) (F.args_zip_next_1 _))))
  exact wpAny_pure (q h' a1 a2 a3 a4 a5 a6 a7)
theorem pyNext_end {z TI TO i1 i2 l1 l2 : Addr} {m n : Nat} {xs ys : Array Value} {a b : Value} {Q : Option Value → Shared → Prop} (hh : A.handled = none) (D : ZipApart z TI TO i1 i2 l1 l2)
    (kz : SZip s.heap z TI TO .none) (ki : IsPair s.heap TI (.ref i1) (.ref i2)) (ko : IsPair s.heap TO a b)
    (k1 : s.heap.IsListIter i1 l1 m) (k2 : s.heap.IsListIter i2 l2 n) (p1 : s.heap.IsList l1 xs) (p2 : s.heap.IsList l2 ys) (ex : xs[m]? = none) (ey : ys[n]? = none)
    (q : ∀ h', (∀ c o, c ≠ z → c ≠ TO → c ≠ i1 → c ≠ i2 → s.heap.get? c = some o → h'.get? c = some o) → Q none { s with heap := h' }) : wpAny (model prog w) A (pyNext (.ref z)) Q E s := by
  have ty : s.TypeIs (.ref z) "zip" := ⟨_, kz, rfl⟩
  unfold pyNext
  refine wpAny_bind (wpAny_attempt (wpAny_callSpecial?_slot (name := Str.ofString "__next__") ty F.slot_zip_next (wpAny_call_entry F.slot_zip_next ty F.entry_zip_next (next_end hh D kz ki ko k1 k2 p1 p2 ex ey fun h' e hk he => ?_) (F.args_zip_next_1 _))))
  obtain ⟨o, ho, hc⟩ := he
  exact wpAny_bind (wpAny_isInstance (T := "StopIteration") (b := true) ⟨o, ho, hc⟩ isSubtype_stop (wpAny_pure (q _ hk)))
theorem ownedGo {elts : List Expr} {x1} {pos : Pos} {Z TI TO T : Addr} {Q : Unit → Shared → Prop} (kz : SZip s.heap Z TI TO (rawInt T)) (q : ∀ h', SZip h' Z TI TO .none → Heap.SameBut Z s.heap h' → Q () { s with heap := h' }) :
    wpAny (model prog w) A (letOwnedTupleGo (.Tuple elts x1 pos) (.ref Z) (.ref T)) Q E s := by
  unfold letOwnedTupleGo
  refine wpAny_bind (wpAny_load kz ?_)
  show wpAny _ _ (if (["enumerate", "zip", "dict_itemiterator", "dict_reverseitemiterator", "odict_iterator", "itertools.zip_longest", "itertools.pairwise"].contains "zip" && (#[rawInt T, .bool false, .bool true, .ref TI, .ref TO] : Array Value)[0]? == some (rawInt T)) = true then _ else _) Q E s
  rw [if_pos (by simp)]
  refine wpAny_bind (wpAny_rule ?_)
  exact wpAny_setField_rec kz (by simp) fun h' a b => q h' a b
theorem pyIter_z {z TI TO : Addr} {f0 : Value} {Q : Value → Shared → Prop} (kz : SZip s.heap z TI TO f0) (h : Q (.ref z) s) : wpAny (model prog w) A (pyIter (.ref z)) Q E s := by
  have ty : s.TypeIs (.ref z) "zip" := ⟨_, kz, rfl⟩
  exact wpAny_pyIter_slot ty F.slot_zip_iter (wpAny_call_entry F.slot_zip_iter ty F.entry_zip_iter (wpAny_pure ⟨_, rfl, "zip", _, ty, F.slot_zip_next.lookup, h⟩) (F.args_zip_iter_1 _))
theorem ty_call (a b : Value) : checkTypeCall "zip" ⟨[a, b], [(Str.ofString "strict", .bool true)]⟩ = pure () := by kernel_rfl
theorem nw_call (a b : Value) : checkBuiltinCall "zip.__new__" ⟨[.type "zip", a, b], [(Str.ofString "strict", .bool true)]⟩ = pure () := by kernel_rfl
theorem in_args (o a b : Value) : argsOk "object.__init__" ⟨[o, a, b], [(Str.ofString "strict", .bool true)]⟩ := by unfold argsOk; kernel_rfl
abbrev sH5 (h : Heap) (l1 l2 : Addr) : Heap := (zipH4 h l1 l2).push { cls := .type "zip", data := .fields #[.none, .bool false, .bool true, .ref (zipH2 h l1 l2).objs.size, .ref (zipH3 h l1 l2).objs.size] }
set_option maxHeartbeats 1000000 in
theorem new_meets (l1 l2 : Addr) (xs ys : Array Value) : Meets (Builtin.«zip.__new__» ⟨[.type "zip", .ref l1, .ref l2], [(Str.ofString "strict", .bool true)]⟩) (fun _ R s => s.heap.IsList l1 xs ∧ s.heap.IsList l2 ys ∧ R (.ok (.ret (.ref (zipH4 s.heap l1 l2).objs.size))) { s with heap := sH5 s.heap l1 l2 }) :=
  .of_wp fun prog w A R s h => by
    obtain ⟨hp, g, d, tk, os⟩ := s
    obtain ⟨v1, v2, h⟩ := h
    have hsub := sub_zip
    have z1 : Heap.IsList (Shared.heap ⟨hp, g, d, tk, os⟩) l1 xs := v1
    have z2 : Heap.IsList (Shared.heap ⟨hp.push { cls := .type "list_iterator", data := .fields #[.ref l1, .int 0 0] }, g, d, tk, os⟩) l2 ys := Heap.IsList.push v2 _
    have e2 : (Str.ofString "strict" != ("strict" : Str)) = false := by decide +kernel
    wp_walk using wpAny_pyIter_list z1, wpAny_pyIter_list z2
    exact ⟨_, rfl, h⟩
end
section
variable {prog : Program} {w : World} {A : Around} {E : Value → Shared → Prop} {s : Shared}
theorem call_strict {l1 l2 : Addr} {xs ys : Array Value} {Q : Value → Shared → Prop} (p1 : s.heap.IsList l1 xs) (p2 : s.heap.IsList l2 ys)
    (q : ∀ h', SZip h' (s.heap.objs.size + 4) (s.heap.objs.size + 2) (s.heap.objs.size + 3) .none → IsPair h' (s.heap.objs.size + 2) (.ref s.heap.objs.size) (.ref (s.heap.objs.size + 1)) → IsPair h' (s.heap.objs.size + 3) .none .none →
      h'.IsListIter s.heap.objs.size l1 0 → h'.IsListIter (s.heap.objs.size + 1) l2 0 → (∀ c o, s.heap.get? c = some o → h'.get? c = some o) → Q (.ref (s.heap.objs.size + 4)) { s with heap := h' }) :
    wpAny (model prog w) A (call (.type "zip") [.ref l1, .ref l2] [(Str.ofString "strict", .bool true)]) Q E s := by
  refine callType_newKw F.called_zip (by decide) (ty_call _ _) (nw_call _ _) (fun o => in_args o _ _) F.entry_zip_new (new_meets l1 l2 xs ys) ⟨p1, p2, ?_⟩
  have n1 : (zipH1 s.heap l1).objs.size = s.heap.objs.size + 1 := Heap.size_push ..
  have n2 : (zipH2 s.heap l1 l2).objs.size = s.heap.objs.size + 2 := by rw [Heap.size_push, n1]
  have n3 : (zipH3 s.heap l1 l2).objs.size = s.heap.objs.size + 3 := by rw [Heap.size_push, n2]
  have n4 : (zipH4 s.heap l1 l2).objs.size = s.heap.objs.size + 4 := by rw [Heap.size_push, n3]
  have g5 : (sH5 s.heap l1 l2).get? (zipH4 s.heap l1 l2).objs.size = some _ := Heap.get?_push_size _ rfl
  have g4 : (sH5 s.heap l1 l2).get? (zipH3 s.heap l1 l2).objs.size = some _ := Heap.get?_push_of_some _ (Heap.get?_push_size _ rfl)
  have g3 : (sH5 s.heap l1 l2).get? (zipH2 s.heap l1 l2).objs.size = some _ := Heap.get?_push_of_some _ (Heap.get?_push_of_some _ (Heap.get?_push_size _ rfl))
  have g2 : (sH5 s.heap l1 l2).get? (zipH1 s.heap l1).objs.size = some _ := Heap.get?_push_of_some _ (Heap.get?_push_of_some _ (Heap.get?_push_of_some _ (Heap.get?_push_size _ rfl)))
  have g1 : (sH5 s.heap l1 l2).get? s.heap.objs.size = some _ := Heap.get?_push_of_some _ (Heap.get?_push_of_some _ (Heap.get?_push_of_some _ (Heap.get?_push_of_some _ (Heap.get?_push_size _ rfl))))
  show _ ∧ _
  rw [n2, n3, n4] at g5
  rw [n1, n2] at g3
  rw [n3] at g4
  rw [n1] at g2
  rw [n4]
  exact ⟨⟨_, g5, rfl⟩, q _ g5 g3 g4 ⟨_, g1, rfl, rfl⟩ ⟨_, g2, rfl, rfl⟩ fun c o x => Heap.get?_push_of_some _ (Heap.get?_push_of_some _ (Heap.get?_push_of_some _ (Heap.get?_push_of_some _ (Heap.get?_push_of_some _ x))))⟩
end
end DZ
namespace DL
open PySem PySem.Spec PyProof.Rows L2
theorem callWith_tyK {M : Model} {A : Around} {E : Value → Shared → Prop} {s : Shared} {env : Env} {pos : Pos} {T : String} {e : Expr} {rest : List Expr} {kws : List Keyword} {Q : Value → Shared → Prop}
    (h : wpAny M A (spliced (backTo pos (starEach (e :: rest) env))) (fun vs s1 => wpAny M A (evalAll ((backToKw pos (keywordEach kws env)).map (·.2))) (fun kvs s2 => wpAny M A (call (.type T) vs (((backToKw pos (keywordEach kws env)).filterMap (·.1)).zip kvs)) Q E s2) E s1) E s)
    (he : backTo pos (starEach (e :: rest) env) = (false, eval e env) :: backTo pos (starEach rest env)) (hp : (backTo pos (starEach (e :: rest) env)).any (·.1) = false)
    (ha : (backToKw pos (keywordEach kws env)).all (·.1.isSome) = true) (hk : (backToKw pos (keywordEach kws env)).any (·.1.isNone) = false) : wpAny M A (callWith pos (.type T) [] (backTo pos (starEach (e :: rest) env)) (backToKw pos (keywordEach kws env))) Q E s := by
  unfold callWith
  have h2 : wpAny M A (evalArgs (.type T) true (backTo pos (starEach (e :: rest) env)) (backToKw pos (keywordEach kws env))) (fun a s1 => wpAny M A (call (.type T) ([] ++ a.pos) a.kw) Q E s1) E s := by
    rw [he] at h ⊢
    exact evalArgs_kwB ha h
  refine wpAny_bind (wpAny_holding (wpAny_mono h2 (fun a s1 k1 => wpAny_bind (wpAny_standAt ?_)) fun _ _ x => x))
  simp only [hp, hk, Bool.or_false]
  exact wpAny_bind (wpAny_pure (wpAny_bind (wpAny_mono k1 (fun r s2 k2 => wpAny_bind (wpAny_holding (wpAny_point (wpAny_pure k2)))) fun _ _ x => x)))
/-- two lists of one length, the items in new pairs -/
def ItzS (K : PySem.W.Frag) (a b : Addr) : It :=
  ⟨(Itz K a b).go, (Itz K a b).yld, fun i H => ∃ xs ys : List V, SqL K H a xs ∧ SqL K H b ys ∧ xs.length ≤ i ∧ ys.length ≤ i⟩
theorem turn_strict {P : Program} {w : World} {K : PySem.W.Frag} {elts : List Expr} {kk : Nat} {tpos : Pos} {a b z TI TO i1 i2 : Addr} (D : ZipApart z TI TO i1 i2 a b) :
    Turn P w K (.Tuple elts kk tpos) (ItzS K a b) [z, TI, TO, i1, i2] z (fun i h => DZ.SZip h z TI TO .none ∧ IsPair h TI (.ref i1) (.ref i2) ∧ (∃ x y, IsPair h TO x y) ∧ h.IsListIter i1 a i ∧ h.IsListIter i2 b i) where
  mem := by simp
  obj := fun i h st c hc => by
    obtain ⟨f1, f2, ⟨x, y, f3⟩, ⟨o1, e1, _, d1⟩, ⟨o2, e2, _, d2⟩⟩ := st
    have cs : c = z ∨ c = TI ∨ c = TO ∨ c = i1 ∨ c = i2 := by simpa using hc
    rcases cs with rfl | rfl | rfl | rfl | rfl
    · exact ⟨_, f1, fun v q => nomatch q⟩
    · exact ⟨_, f2, fun v q => nomatch q⟩
    · exact ⟨_, f3, fun v q => nomatch q⟩
    · exact ⟨o1, e1, fun v q => by rw [d1] at q; cases q⟩
    · exact ⟨o2, e2, fun v q => by rw [d2] at q; cases q⟩
  keep := fun i h h' ⟨f1, f2, ⟨x, y, f3⟩, f4, f5⟩ k => ⟨k z (by simp) _ f1, k TI (by simp) _ f2, ⟨x, y, k TO (by simp) _ f3⟩, f4.at fun o q => k i1 (by simp) o q, f5.at fun o q => k i2 (by simp) o q⟩
  item := by
    intro X hP hw hK hc i pins s σ H E I hf st hg
    subst hP hw hK
    obtain ⟨f1, f2, ⟨x0, y0, f3⟩, f4, f5⟩ := st
    obtain ⟨xs, ys, x, y, qa, qb, hx, hy⟩ := hg
    obtain ⟨its, rv, pa, _⟩ := I.list qa
    obtain ⟨jts, rw', pb, _⟩ := I.list qb
    obtain ⟨u, hu, ru⟩ := rv.get hx
    obtain ⟨v, hv, rv2⟩ := rw'.get hy
    have zl : z < s.heap.objs.size := Heap.lt_size f1
    refine DZ.pyNext_item D f1 f2 f3 f4 f5 pa.isList pb.isList (x := u) (y := v) (by simpa using hu) (by simpa using hv) fun h1 g1 g2 g3 g4 g5 g6 g7 => ⟨_, rfl, DZ.ownedGo (s := { s with heap := h1 }) g1 fun h2 g8 sb => ?_⟩
    have t2 : h2.get? s.heap.objs.size = some { cls := .type "tuple", data := .seq #[u, v] } := (sb.2 _ (Nat.ne_of_gt zl)).trans g5
    have nw : ObjOk X.prog X.w (upd H s.heap.objs.size (.tup [x, y])) h2 s.heap.objs.size (.tup [x, y]) := ⟨by show 2 ≤ sizeLine; decide, [u, v], .cons ru (.cons rv2 .nil), ⟨_, t2, rfl, _, rfl⟩⟩
    have I1 : Inv X pins σ (upd H s.heap.objs.size (.tup [x, y])) { s with heap := h2 } := I.turnedNew (t' := s.toks) (ch := [z, TI, TO, i1, i2]) (fun c o hb q => (sb.2 c (fun q' => hb (by simp [q']))).trans (g7 c o (fun q' => hb (by simp [q'])) (fun q' => hb (by simp [q'])) (fun q' => hb (by simp [q'])) (fun q' => hb (by simp [q'])) q)) hf (Nat.le_refl _) nw
    refine ⟨.ref s.heap.objs.size, _, I1, rfl, ⟨_, x, y, rfl, I.hok.fresh (Nat.le_refl _), rfl, fun l hl => by rw [I.list_inj hl qa]; exact hx, fun l hl => by rw [I.list_inj hl qb]; exact hy⟩, ⟨g8, (sb.2 _ D.TIz).trans (g7 _ _ D.TIz D.TITO D.TIi1 D.TIi2 f2), ⟨u, v, (sb.2 _ D.TOz).trans g2⟩, g3.at fun o q => (sb.2 _ D.i1z).trans q, g4.at fun o q => (sb.2 _ D.i2z).trans q⟩, fun c hcm => ?_⟩
    have lt : c < s.heap.objs.size := by
      have cs : c = z ∨ c = TI ∨ c = TO ∨ c = i1 ∨ c = i2 := by simpa using hcm
      rcases cs with rfl | rfl | rfl | rfl | rfl
      · exact zl
      · exact Heap.lt_size f2
      · exact Heap.lt_size f3
      · obtain ⟨_, e1, _⟩ := f4; exact Heap.lt_size e1
      · obtain ⟨_, e2, _⟩ := f5; exact Heap.lt_size e2
    rw [upd_ne (Nat.ne_of_lt lt)]
    exact (hf c hcm).1
  done := by
    intro X hP hw hK hc i pins s σ H E I hf st hg
    subst hP hw hK
    obtain ⟨f1, f2, ⟨x0, y0, f3⟩, f4, f5⟩ := st
    obtain ⟨xs, ys, qa, qb, ea, eb⟩ := hg
    obtain ⟨its, rv, pa, _⟩ := I.list qa
    obtain ⟨jts, rw', pb, _⟩ := I.list qb
    have n1 := rv.length
    have n2 := rw'.length
    exact DZ.pyNext_end (I.ok.hd hc) D f1 f2 f3 f4 f5 pa.isList pb.isList (by simp; omega) (by simp; omega) fun h' hk => ⟨rfl, I.turnedL (t' := s.toks) (ch := [z, TI, TO, i1, i2]) (fun c o hb q => hk c o (fun q' => hb (by simp [q'])) (fun q' => hb (by simp [q'])) (fun q' => hb (by simp [q'])) (fun q' => hb (by simp [q'])) q) hf⟩
  self := fun A i s Q E st h => DZ.pyIter_z st.1 h
end DL
/-! The data layer, part 18: zip(.., strict=True) of two lists of flat data. -/
namespace DL
open PySem PySem.Spec PyProof.Rows L2
def iZipS (K : PySem.W.Frag) (ta : TA) : TI := fun σ H R => ta σ H fun vs H1 => ∃ a b xs ys, vs = [.ref a, .ref b] ∧ SqL K H1 a xs ∧ SqL K H1 b ys ∧ R (ItzS K a b) H1
section
variable {X : Cx} {ss ts : List Slot} {Φ : List Slot → Slot → Prop} {e e2 : Expr} {elts : List Expr} {pos p tpos kp kp2 : Pos} {kk j : Nat} {Ψ : List Slot → List Slot → List El → Prop} {ta : TA}
theorem pi_zipS (hg : Gl X "zip") (hm : X.mg "zip" = none) (ha : PA X [e, e2] ta) (hs : starEach [e, e2] X.env = (false, eval e X.env) :: starEach [e2] X.env) (hpl : (backTo pos (starEach [e2] X.env)).any (·.1) = false)
    (hbt : backTo pos (starEach (e :: [e2]) X.env) = (false, eval e X.env) :: backTo pos (starEach [e2] X.env)) (hp2 : (backTo pos (starEach (e :: [e2]) X.env)).any (·.1) = false)
    (hk1 : (backToKw pos (keywordEach [⟨some (Str.ofString "strict"), .Constant (.bool true) j kp, kp2⟩] X.env)).all (·.1.isSome) = true) (hk2 : (backToKw pos (keywordEach [⟨some (Str.ofString "strict"), .Constant (.bool true) j kp, kp2⟩] X.env)).any (·.1.isNone) = false) :
    PI X (.Tuple elts kk tpos) (.Call (.Name "zip" p) [e, e2] [⟨some (Str.ofString "strict"), .Constant (.bool true) j kp, kp2⟩] pos) (iZipS X.K ta) := by
  refine ⟨fun pins s σ H R I h => ?_⟩
  refine wpAny_Call_Name_kw (ld_blt I hg hm PyProof.Rows.boot_zip (callWith_tyK (thn (ha.run pos pins s σ H _ I h) fun us s1 ⟨vs, H1, I1, r1, q1⟩ => ?_) hbt hp2 hk1 hk2))
  refine kws_cons ?_
  refine wpAny_mono ((pe_bl (X := X) (b := true) (j := j) (pos := kp)).run pins s1 σ H1 (fun v H2 => v = .bl true ∧ H2 = H1) I1 ⟨rfl, rfl⟩) (fun u s2 ⟨v, H2, I2, rv, ev, eH⟩ => ?_) fun _ _ x => x
  subst ev
  rw [eH] at I2
  cases (show u = Value.bool true from rv)
  refine kws_nil ?_
  obtain ⟨a, b, xs, ys, ex, qa, qb, q⟩ := q1
  subst ex
  cases r1 with
  | cons ra rr =>
    cases rr with
    | cons rb rr =>
      cases rr
      cases ra
      cases rb
      have fr5 : ∀ c, c ∈ [s2.heap.objs.size + 4, s2.heap.objs.size + 2, s2.heap.objs.size + 3, s2.heap.objs.size, s2.heap.objs.size + 1] → FpOk X pins H1 c := fun c hc => by
        have cs : c = s2.heap.objs.size + 4 ∨ c = s2.heap.objs.size + 2 ∨ c = s2.heap.objs.size + 3 ∨ c = s2.heap.objs.size ∨ c = s2.heap.objs.size + 1 := by simpa using hc
        have le : s2.heap.objs.size ≤ c := by omega
        exact I2.fpOk le (I2.hok.fresh le)
      obtain ⟨its, _, pa, _⟩ := I2.list qa
      obtain ⟨jts, _, pb, _⟩ := I2.list qb
      refine DZ.call_strict pa.isList pb.isList fun h' hz hTI hTO h1 h2 hk => DZ.pyIter_z hz ?_
      have I3 : Inv X pins σ H1 { s2 with heap := h' } := I2.kept (t' := s2.toks) hk
      exact ⟨s2.heap.objs.size + 4, [s2.heap.objs.size + 4, s2.heap.objs.size + 2, s2.heap.objs.size + 3, s2.heap.objs.size, s2.heap.objs.size + 1], _, _, H1, rfl, I3, turn_strict (PySem.W.ktu_apart s2.heap.objs.size a b pa.lt pb.lt), ⟨hz, hTI, ⟨_, _, hTO⟩, h1, h2⟩, fr5, q⟩
/-- zip(a, b, strict=True): two lists of flat data, of one length -/
theorem wZipS (hm : X.mg "zip" = none) (h : EV X e ss ts fun s1 r1 => EV X e2 s1 (r1 :: ts) fun s r2 => d1K (fun d1 => d1K (fun d2 => ∃ ds es, d1 = .lst ds ∧ d2 = .lst es ∧ ds.length = es.length ∧ (∀ d ∈ ds, d.flat = true) ∧ (∀ d ∈ es, d.flat = true) ∧ Ψ s [r2, r1] ((ds.zip es).map fun p => .two (.own p.1) (.own p.2))) r2) r1)
    (hg : Gl X "zip" := by rfl) (hs : starEach [e, e2] X.env = (false, eval e X.env) :: starEach [e2] X.env := by rfl) (hs2 : starEach [e2] X.env = (false, eval e2 X.env) :: starEach [] X.env := by rfl) (hpl : (backTo pos (starEach [e2] X.env)).any (·.1) = false := by rfl)
    (hbt : backTo pos (starEach (e :: [e2]) X.env) = (false, eval e X.env) :: backTo pos (starEach [e2] X.env) := by rfl) (hp2 : (backTo pos (starEach (e :: [e2]) X.env)).any (·.1) = false := by rfl)
    (hk1 : (backToKw pos (keywordEach [⟨some (Str.ofString "strict"), .Constant (.bool true) j kp, kp2⟩] X.env)).all (·.1.isSome) = true := by rfl) (hk2 : (backToKw pos (keywordEach [⟨some (Str.ofString "strict"), .Constant (.bool true) j kp, kp2⟩] X.env)).any (·.1.isNone) = false := by rfl) :
    IV X (.Tuple elts kk tpos) (.Call (.Name "zip" p) [e, e2] [⟨some (Str.ofString "strict"), .Constant (.bool true) j kp, kp2⟩] pos) ss ts Ψ := fun m B σ tv H R hm' hh k => by
  refine toI (pi_zipS hg hm (pa_cons pe_w (pa_cons pe_w pa_nil hs2) hs) hs hpl hbt hp2 hk1 hk2) ?_
  refine h m B σ tv H _ hm' hh fun s1 r1 x H1 h1 hh1 => ?_
  refine h1 m B σ (x :: tv) H1 _ hm'.up hh1 fun s r2 y H2 hq hh2 => ?_
  obtain ⟨d1, i1, hq⟩ := d1K_of hq
  obtain ⟨d2, i2, ds, es, rfl, rfl, hl, f1, f2, q⟩ := d1K_of hq
  have za := hh2.top2 i1
  have zb := hh2.top i2
  unfold RepR at za zb
  obtain ⟨a, vs, rfl, a1, a2⟩ := za
  obtain ⟨b, ws, rfl, b1, b2⟩ := zb
  refine ⟨a, b, vs, ws, rfl, SqL.of a1, SqL.of b1, k s [r2, r1] [.ref b, .ref a] _ _ H2 q rfl hh2 ?_⟩
  intro m' B' H' σ' ss' ev es' tv' ts' h' hlen hle hmm
  obtain ⟨fp, hf⟩ := h'
  have mb : m' (ts.length + 1) := hmm _ (by omega) (by simp)
  have ma : m' ts.length := hmm _ (Nat.le_refl _) (by simp)
  have w1 := HeldF.at (v := .ref b) (r := r2) (ts := r1 :: ts') (tv := .ref a :: tv') hf hlen
  have hf2 : HeldF X.K m' B' H' fp σ' ss' ((ev ++ [.ref b]) ++ (.ref a :: tv')) ((es' ++ [r2]) ++ (r1 :: ts')) := by
    rw [List.append_assoc, List.append_assoc]
    exact hf
  have w2 := HeldF.at hf2 (by simp [hlen])
  rw [List.length_cons, hle] at w1
  rw [hle] at w2
  obtain ⟨b', ws', eb, c1, c2, c3⟩ := w1.item hf.base i2 mb
  obtain ⟨a', vs', ea, e1, e2', e3⟩ := w2.item hf.base i1 ma
  cases eb
  cases ea
  have len : ((ds.zip es).map fun p => El.two (.own p.1) (.own p.2)).length = ds.length := by
    rw [List.length_map, List.length_zip, ← hl, Nat.min_self]
  refine ⟨fun i el hi => ?_, fun i hi => ⟨vs', ws', SqL.of e1, SqL.of c1, by omega, by omega⟩⟩
  obtain ⟨pr, hpr, rfl⟩ := els_get hi
  obtain ⟨hd, he⟩ := List.getElem?_zip_eq_some.mp hpr
  obtain ⟨u, u1, u2, _⟩ := e3 i pr.1 hd
  obtain ⟨v, v1, v2, _⟩ := c3 i pr.2 he
  refine ⟨⟨vs', ws', u, v, SqL.of e1, SqL.of c1, u1, v1⟩, fun x H3 y => ?_⟩
  obtain ⟨T, x1, x2, ex, hT, eH, y1, y2⟩ := y
  have ex1 : x1 = u := by
    have z := y1 vs' (SqL.of e1)
    rw [u1] at z
    exact (Option.some.inj z).symm
  have ex2 : x2 = v := by
    have z := y2 ws' (SqL.of c1)
    rw [v1] at z
    exact (Option.some.inj z).symm
  subst ex1 ex2 ex eH
  have exx := Ex.new (o := .tup [x1, x2]) hT
  have g1 := (hf.ex exx).pushF ((u2.mono exx).flatO (f1 _ (List.mem_of_getElem? hd)))
  exact ⟨T, x1, x2, rfl, .inl (.inl upd_same), _, g1.pushF ((v2.mono exx).flatO (f2 _ (List.mem_of_getElem? he)))⟩
end
end DL
/-! The data layer, part 19: lists of lists. -/
namespace DL
open PySem PySem.Spec PyProof.Rows L2
section
variable {X : Cx} {ss ts : List Slot} {Φ : List Slot → Slot → Prop} {a b l tg : Expr} {pos p : Pos} {Ψ : List Slot → List Slot → List El → Prop}
/-- a list of lists is walked -/
theorem wLstV (h : EV X l ss ts fun s r => d1K (fun d => ∃ ds, d = .lst ds ∧ Ψ s [r] (ds.map fun d => .one (sub ts.length r d))) r) : IV X tg l ss ts Ψ :=
  iv_list (h.imp fun s r h => by
    obtain ⟨d, e, ds, rfl, q⟩ := d1K_of h
    exact ⟨ds, e, q⟩)
@[reducible] def lentK (k : List D → (D → Slot) → Prop) : Slot → Prop
  | .par (.lst l) => k l Slot.par
  | .par (.tup l) => k l Slot.par
  | .view o (.lst l) => k l (Slot.view o)
  | .view o (.tup l) => k l (Slot.view o)
  | _ => False
theorem lentK_of {k : List D → (D → Slot) → Prop} {r : Slot} (h : lentK k r) : ∃ d0 l, d0.seqL = some l ∧ ((r = .par d0 ∧ k l Slot.par) ∨ ∃ o, r = .view o d0 ∧ k l (Slot.view o)) := by
  unfold lentK at h
  split at h
  · exact ⟨_, _, rfl, .inl ⟨rfl, h⟩⟩
  · exact ⟨_, _, rfl, .inl ⟨rfl, h⟩⟩
  · exact ⟨_, _, rfl, .inr ⟨_, rfl, h⟩⟩
  · exact ⟨_, _, rfl, .inr ⟨_, rfl, h⟩⟩
  · exact h.elim
/-- o[i], o lent: the item is lent -/
theorem eIxV (h : EV X a ss ts fun s1 r1 => EV X b s1 (r1 :: ts) fun s r2 => lentK (fun l mk => i1K (fun i => ∃ d, atI l i = some d ∧ Φ s (mk d)) r2) r1) (hs : PlainIx b := by intro _ _; rfl) : EV X (.Subscript a b pos) ss ts Φ := fun m B σ tv H Q hm hh k => by
  refine toE (pe_ix ix_seq pe_w pe_w hs) ?_
  refine h m B σ tv H _ hm hh fun s1 r1 x H1 h1 hh1 => ?_
  refine h1 m B σ (x :: tv) H1 _ hm.up hh1 fun s r2 y H2 hq hh2 => ?_
  obtain ⟨d0, l, e1, hz⟩ := lentK_of hq
  clear hq
  obtain ⟨fp, hf⟩ := hh2
  have hf1 := hf.pop hm.up
  have hlen : tv.length = ts.length := by have := hf1.tlen; simpa using this
  have slot := hf1.top
  have key : ∀ i, r2 = .own (.int i) → ∀ d, atI l i = some d → ∀ (HR : Hp), RepR X.K HR d0 x → Ex HR H2 → (∀ w, RepR X.K HR d w → Q w H2) → rIx X.K x y H2 Q := fun i ei d hd HR rr ex fin => by
    have z2 := hf.top
    rw [ei] at z2
    obtain ⟨yv, ey, ry⟩ := z2
    have ey2 : y = yv := Option.some.inj ey
    subst ey2
    have iy := ry.rep
    rw [rep_int] at iy
    obtain ⟨p, vs, rfl, sq, rs⟩ := D.seq_rep rr e1
    have hl := rs.length
    unfold atI at hd
    rw [← hl] at hd
    obtain ⟨j, j1, j2⟩ := Option.bind_eq_some_iff.mp hd
    obtain ⟨w, w1, w2⟩ := rs.get j2
    have e5 : atI vs i = some w := by unfold atI; rw [j1]; exact w1
    rcases sq with sq | sq
    · exact .inl ⟨p, vs, i, w, rfl, iy, ex.sql sq, e5, fin w w2⟩
    · exact .inr (.inl ⟨p, vs, i, w, rfl, iy, ex.sqt sq, e5, fin w w2⟩)
  rcases hz with ⟨rfl, hq⟩ | ⟨o, rfl, hq⟩
  · obtain ⟨i, ei, d, hd, q⟩ := i1K_of hq
    obtain ⟨v, ev, rv⟩ := slot
    have e2 : x = v := Option.some.inj ev
    subst e2
    refine key i ei d hd B rv hf.base fun w rw' => k _ _ w H2 q ⟨_, (hf1.pop hm).pushV (o := .t ts.length) (fun _ z => nomatch z) ⟨w, rfl, rw'⟩⟩
  · obtain ⟨i, ei, d, hd, q⟩ := i1K_of hq
    obtain ⟨ok, v, ev, rv⟩ := slot
    have e2 : x = v := Option.some.inj ev
    subst e2
    refine key i ei d hd _ rv restr_ex fun w rw' => k _ _ w H2 q ⟨_, (hf1.pop hm).pushV (o := .t ts.length) (fun _ z => nomatch z) ⟨ok, w, rfl, rw'⟩⟩
end
end DL
/-! The program's elimination in plain Lean, and how great its numbers grow. -/
namespace DL
/-- a row over one bottom: every number is p / d with p below 2^n in size, d below 2^n -/
def RowB (n : Nat) (r : List Rat) : Prop := ∃ d : Int, 0 < d ∧ d.natAbs < 2 ^ n ∧ ∀ x ∈ r, ∃ p : Int, x = Rat.divInt p d ∧ p.natAbs < 2 ^ n
theorem RowB.sz {n : Nat} {r : List Rat} (h : RowB n r) {x : Rat} (hx : x ∈ r) : Sz n x := by
  obtain ⟨d, h0, hd, hp⟩ := h
  obtain ⟨p, rfl, hp⟩ := hp x hx
  exact .of (by omega) hp hd
theorem RowB.up {n m : Nat} {r : List Rat} (h : RowB n r) (k : n ≤ m) : RowB m r := by
  obtain ⟨d, h0, hd, hp⟩ := h
  exact ⟨d, h0, lt_up hd k, fun x hx => by
    obtain ⟨p, e, hp⟩ := hp x hx
    exact ⟨p, e, lt_up hp k⟩⟩
/-- the leading row: divided by its pivot -/
theorem RowB.lead {n : Nat} {r : List Rat} (h : RowB n r) {v : Rat} (hv : v ∈ r) (h0 : v ≠ 0) : RowB n (r.map (· * (1 / v))) := by
  obtain ⟨d, d0, hd, hp⟩ := h
  obtain ⟨pv, ev, hpv⟩ := hp v hv
  have pv0 : pv ≠ 0 := fun z => h0 (by rw [ev, z, Rat.zero_divInt])
  have key : ∀ p : Int, Rat.divInt p d * (1 / v) = Rat.divInt p pv := fun p => by
    rw [ev]
    have e1 : (1 : Rat) / Rat.divInt pv d = Rat.divInt d pv := by
      rw [Rat.div_def, Rat.inv_divInt, Rat.one_mul]
    rw [e1, Rat.divInt_mul_divInt, Int.mul_comm d pv, Rat.divInt_mul_right (by omega)]
  rcases Int.lt_or_gt_of_ne pv0 with hneg | hpos
  · refine ⟨-pv, by omega, by omega, fun x hx => ?_⟩
    obtain ⟨y, hy, rfl⟩ := List.mem_map.mp hx
    obtain ⟨p, rfl, hp⟩ := hp y hy
    exact ⟨-p, by rw [key, ← Rat.neg_divInt_neg p pv], by omega⟩
  · refine ⟨pv, hpos, hpv, fun x hx => ?_⟩
    obtain ⟨y, hy, rfl⟩ := List.mem_map.mp hx
    obtain ⟨p, rfl, hp⟩ := hp y hy
    exact ⟨p, key p, hp⟩
/-- a row less so many times another one -/
theorem RowB.without {n : Nat} {r l : List Rat} (h : RowB n r) (k : RowB n l) {v : Rat} (hv : v ∈ r) : RowB (2 * n + 1) (List.zipWith (fun p q => p - v * q) r l) := by
  obtain ⟨d, d0, hd, hp⟩ := h
  obtain ⟨c, c0, hc, hq⟩ := k
  obtain ⟨pv, rfl, hpv⟩ := hp v hv
  refine ⟨d * c, Int.mul_pos d0 c0, ?_, fun x hx => ?_⟩
  · have := lt_mul hd hc
    rw [show n + n = 2 * n by omega] at this
    exact lt_up this (by omega)
  · obtain ⟨i, hi⟩ := List.getElem?_of_mem hx
    rw [List.getElem?_zipWith] at hi
    cases e1 : r[i]? with
    | none => rw [e1] at hi; cases hi
    | some y =>
      cases e2 : l[i]? with
      | none => rw [e1, e2] at hi; cases hi
      | some z =>
        rw [e1, e2] at hi
        have ex : y - Rat.divInt pv d * z = x := Option.some.inj hi
        obtain ⟨p, rfl, hp⟩ := hp y (List.mem_of_getElem? e1)
        obtain ⟨q, rfl, hq⟩ := hq z (List.mem_of_getElem? e2)
        refine ⟨p * c - pv * q, ?_, ?_⟩
        · rw [← ex, Rat.divInt_mul_divInt, Rat.sub_eq_add_neg, Rat.neg_divInt, show Rat.divInt p d = Rat.divInt (p * c) (d * c) from (Rat.divInt_mul_right (by omega)).symm]
          have e3 := Rat.divInt_add_divInt (p * c) (-(pv * q)) (d₁ := d * c) (d₂ := d * c) (Int.mul_ne_zero (by omega) (by omega)) (Int.mul_ne_zero (by omega) (by omega))
          rw [e3, ← Int.add_mul, Rat.divInt_mul_right (Int.mul_ne_zero (by omega) (by omega)), Int.sub_eq_add_neg]
        · have a1 := lt_mul hp hc
          have a2 := lt_mul hpv hq
          rw [show n + n = 2 * n by omega] at a1 a2
          have := lt_add a1 (y := -(pv * q)) (by rw [Int.natAbs_neg]; exact a2)
          rw [Int.sub_eq_add_neg]
          exact this
/-! ### the elimination -/
/-- the number at i, j -/
def ent (M : List (List Rat)) (i j : Nat) : Rat := (((M[i]?).getD [])[j]?).getD 0
/-- the first row from st on with a number in column c -/
def firstRow (M : List (List Rat)) (st c : Nat) : Option Nat := (List.range M.length).find? fun i => decide (st ≤ i) && decide (ent M i c ≠ 0)
theorem firstRow_some {M : List (List Rat)} {st c i : Nat} (h1 : st ≤ i) (h2 : i < M.length) (h3 : ent M i c ≠ 0) (h4 : ∀ j, st ≤ j → j < i → ent M j c = 0) : firstRow M st c = some i := by
  unfold firstRow
  rw [List.find?_range_eq_some]
  refine ⟨by simp [h1, h3], by simpa using h2, fun j hj => ?_⟩
  by_cases hs : st ≤ j
  · simp [h4 j hs hj]
  · simp [hs]
theorem firstRow_none {M : List (List Rat)} {st c : Nat} (h : ∀ j, st ≤ j → j < M.length → ent M j c = 0) : firstRow M st c = none := by
  unfold firstRow
  rw [List.find?_range_eq_none]
  intro j hj
  by_cases hs : st ≤ j
  · simp [h j hs hj]
  · simp [hs]
structure El3 where
  rows : List (List Rat)
  led : List Nat
  num : Rat
/-- one column's turn -/
def El3.turn (s : El3) (c : Nat) : El3 := match firstRow s.rows s.led.length c with
  | none => ⟨s.rows, s.led, 0⟩
  | some a =>
    let k := s.led.length
    let num := if a ≠ k then -s.num else s.num
    let R := (s.rows.set a ((s.rows[k]?).getD [])).set k ((s.rows[a]?).getD [])
    let v := ent R k c
    let lead := ((R[k]?).getD []).map (· * (1 / v))
    ⟨(R.map fun r => List.zipWith (fun p q => p - (r[c]?).getD 0 * q) r lead).set k lead, s.led ++ [c], num * v⟩
def elim (M : List (List Rat)) (m : Nat) : El3 := (List.range m).foldl El3.turn ⟨M, [], 1⟩
end DL
/-! The data layer, part 20: two items of an own list change places. -/
namespace DL
open PySem PySem.Spec PyProof.Rows L2
/-- an index that leaves everything as it is -/
def PI0 (X : Cx) (e : Expr) (ss : List Slot) (a : Int) : Prop := ∃ t, PE X e t ∧ ∀ (B : Hp) (m : Nat → Prop) (σ : List (Option V)) (tv : List V) (ts : List Slot) (H : Hp) (Q : VK), Held X.K m B H σ ss tv ts → Q (.int a) H → t σ H Q
section
variable {X : Cx} {fx : List Nat} {ss ts : List Slot} {e1 e2 f1 f2 : Expr} {pos p1 p2 p3 p4 q1 q2 q3 q4 tp tp2 : Pos} {x : Str} {E : DE} {k1 k2 : Nat}
theorem pI_nm (i : Nat) {a : Int} (h : ss[i]? = some (.own (.int a)) ∨ ss[i]? = some (.par (.int a))) (hN : X.N[i]? = some x := by rfl) (hv : Vis X.env.scope x := by first | exact Or.inl rfl | exact Or.inr (Or.inl rfl) | exact Or.inr (Or.inr rfl)) (hd : (x == ("__debug__" : Str)) = false := by decide) (hcd : (x == ("__classdict__" : Str)) = false := by decide) : PI0 X (.Name x pos) ss a := by
  refine ⟨_, pe_var hN hv hd hcd, fun B m σ tv ts H Q hh q => ?_⟩
  obtain ⟨v, e, r⟩ : ∃ v, σ[i]? = some (some v) ∧ RepR X.K H (.int a) v := by
    rcases h with h | h
    · exact held_get hh h (.inl rfl)
    · exact held_get hh h (.inr (.inl rfl))
  rw [rep_int] at r
  subst r
  exact ⟨_, e, q⟩
theorem pI_len (i : Nat) {l : List D} (hm : X.mg "len" = none) (h : ss[i]? = some (.own (.lst l)) ∨ ss[i]? = some (.par (.lst l))) (hg : Gl X "len" := by rfl) (hN : X.N[i]? = some x := by rfl) (hv : Vis X.env.scope x := by first | exact Or.inl rfl | exact Or.inr (Or.inl rfl) | exact Or.inr (Or.inr rfl)) (hd : (x == ("__debug__" : Str)) = false := by decide) (hcd : (x == ("__classdict__" : Str)) = false := by decide)
    (he : starEach [.Name x p1] X.env = (false, eval (.Name x p1) X.env) :: starEach [] X.env := by rfl) : PI0 X (.Call (.Name "len" p2) [.Name x p1] [] pos) ss ((l.length : Nat) : Int) := by
  refine ⟨_, pe_callB call_len_seq hg hm PySem.boot_len (pa_cons (pe_var hN hv hd hcd) pa_nil he) (by decide) (by decide) he rfl, fun B m σ tv ts H Q hh q => ?_⟩
  obtain ⟨v, e, r⟩ : ∃ v, σ[i]? = some (some v) ∧ RepR X.K H (.lst l) v := by
    rcases h with h | h
    · exact held_get hh h (.inl rfl)
    · exact held_get hh h (.inr (.inl rfl))
  unfold RepR at r
  obtain ⟨a, vs, rfl, z2, z3⟩ := r
  refine ⟨_, e, a, vs, rfl, .inl (SqL.of z2), ?_⟩
  rw [z3.length]
  exact q
end
theorem swap_perm {l : List (List Nat)} {a k : Nat} {x y : List Nat} (ha : l[a]? = some x) (hk : l[k]? = some y) : ((l.set a y).set k x).Perm l := by
  obtain ⟨ha1, ha2⟩ := List.getElem?_eq_some_iff.mp ha
  obtain ⟨hk1, hk2⟩ := List.getElem?_eq_some_iff.mp hk
  rw [List.perm_iff_count]
  intro b
  rw [List.count_set (by simpa using hk1), List.count_set ha1, ha2]
  by_cases e : a = k
  · subst e
    have hxy : x = y := by rw [ha] at hk; exact Option.some.inj hk
    subst hxy
    simp only [List.getElem_set_self]
    have : (x == b) = true → 1 ≤ l.count b := fun h => by
      rw [← beq_iff_eq.mp h]
      exact List.count_pos_iff.mpr (ha2 ▸ List.getElem_mem ha1)
    by_cases h : (x == b) = true
    · have := this h
      rw [if_pos h]
      omega
    · rw [if_neg h]
      omega
  · rw [List.getElem_set_ne e, hk2]
    have h1 : (x == b) = true → 1 ≤ l.count b := fun h => by
      rw [← beq_iff_eq.mp h]
      exact List.count_pos_iff.mpr (ha2 ▸ List.getElem_mem ha1)
    have h2 : (y == b) = true → 1 ≤ l.count b := fun h => by
      rw [← beq_iff_eq.mp h]
      exact List.count_pos_iff.mpr (hk2 ▸ List.getElem_mem hk1)
    by_cases c1 : (x == b) = true <;> by_cases c2 : (y == b) = true
    · have := h1 c1; rw [if_pos c1, if_pos c2]; omega
    · have := h1 c1; rw [if_pos c1, if_neg c2]; omega
    · have := h2 c2; rw [if_neg c1, if_pos c2]; omega
    · rw [if_neg c1, if_neg c2]; omega
theorem RepOs.parts {K : PySem.W.Frag} {H : Hp} : ∀ {ds : List D} {vs : List V} {G : List Addr}, RepOs K H ds vs G ↔ ∃ Fs : List (List Addr), Fs.length = ds.length ∧ vs.length = ds.length ∧ G = Fs.flatten ∧ ∀ (i : Nat) (d : D) (v : V) (F : List Addr), ds[i]? = some d → vs[i]? = some v → Fs[i]? = some F → RepO K H d v F
  | [], vs, G => by
    unfold RepOs
    constructor
    · rintro ⟨rfl, rfl⟩
      exact ⟨[], rfl, rfl, rfl, fun i d v F h => by simp at h⟩
    · rintro ⟨Fs, h1, h2, rfl, _⟩
      have e1 : Fs = [] := List.eq_nil_of_length_eq_zero h1
      exact ⟨List.eq_nil_of_length_eq_zero h2, by rw [e1]; rfl⟩
  | d :: ds, vs, G => by
    unfold RepOs
    constructor
    · rintro ⟨w, ws, F1, F2, rfl, rfl, r1, r2⟩
      obtain ⟨Fs, h1, h2, rfl, h3⟩ := RepOs.parts.mp r2
      refine ⟨F1 :: Fs, by simp [h1], by simp [h2], rfl, fun i d' v' F' e1 e2 e3 => ?_⟩
      cases i with
      | zero => cases e1; cases e2; cases e3; exact r1
      | succ i => exact h3 i d' v' F' (by simpa using e1) (by simpa using e2) (by simpa using e3)
    · rintro ⟨Fs, h1, h2, rfl, h3⟩
      match Fs, vs, h1, h2 with
      | F :: Fs, v :: vs, h1, h2 =>
        exact ⟨v, vs, F, Fs.flatten, rfl, rfl, h3 0 d v F rfl rfl rfl, RepOs.parts.mpr ⟨Fs, by simpa using h1, by simpa using h2, rfl, fun i d' v' F' e1 e2 e3 => h3 (i + 1) d' v' F' (by simpa using e1) (by simpa using e2) (by simpa using e3)⟩⟩
theorem RepOs.swap {K : PySem.W.Frag} {H : Hp} {ds : List D} {vs : List V} {G : List Addr} {a k : Nat} {da dk : D} {wa wk : V} (h : RepOs K H ds vs G) (h1 : ds[a]? = some da) (h2 : ds[k]? = some dk) (h3 : vs[a]? = some wa) (h4 : vs[k]? = some wk) :
    ∃ G', RepOs K H ((ds.set a dk).set k da) ((vs.set a wk).set k wa) G' ∧ G'.Perm G := by
  obtain ⟨Fs, n1, n2, rfl, r⟩ := RepOs.parts.mp h
  have la := (List.getElem?_eq_some_iff.mp h1).1
  have lk := (List.getElem?_eq_some_iff.mp h2).1
  obtain ⟨Fa, ea⟩ : ∃ F, Fs[a]? = some F := ⟨Fs[a]'(by omega), by simp [show a < Fs.length by omega]⟩
  obtain ⟨Fk, ek⟩ : ∃ F, Fs[k]? = some F := ⟨Fs[k]'(by omega), by simp [show k < Fs.length by omega]⟩
  refine ⟨((Fs.set a Fk).set k Fa).flatten, RepOs.parts.mpr ⟨_, by simp [n1], by simp [n2], rfl, fun i d v F e1 e2 e3 => ?_⟩, (swap_perm ea ek).flatten⟩
  by_cases c1 : i = k
  · subst c1
    rw [List.getElem?_set_self (by simpa using lk)] at e1
    rw [List.getElem?_set_self (by simp; omega)] at e2
    rw [List.getElem?_set_self (by simp; omega)] at e3
    cases e1; cases e2; cases e3
    exact r a _ _ _ h1 h3 ea
  · rw [List.getElem?_set_ne (Ne.symm c1)] at e1 e2 e3
    by_cases c2 : i = a
    · subst c2
      rw [List.getElem?_set_self la] at e1
      rw [List.getElem?_set_self (by omega)] at e2
      rw [List.getElem?_set_self (by omega)] at e3
      cases e1; cases e2; cases e3
      exact r k _ _ _ h2 h4 ek
    · rw [List.getElem?_set_ne (Ne.symm c2)] at e1 e2 e3
      exact r i d v F e1 e2 e3
theorem atI_ix {l : List D} {vs : List V} {i : Int} {j : Nat} (hl : vs.length = l.length) (h : ixN l.length i = some j) {w : V} (hw : vs[j]? = some w) : atI vs i = some w := by
  unfold atI
  rw [hl, h]
  exact hw
section
variable {X : Cx} {fx : List Nat} {ss ts : List Slot} {e1 e2 f1 f2 : Expr} {pos p1 p2 p3 p4 q1 q2 q3 q4 tp tp2 : Pos} {x : Str} {E : DE} {k1 k2 : Nat}
/-- x[f1], x[f2] = x[e1], x[e2], where f1 = e2 = a and f2 = e1 = k: two items of the own list in slot i change places -/
theorem sSwap (i : Nat) {l : List D} {a k : Int} {ja jk : Nat} {da dk : D} (h0 : ss[i]? = some (.own (.lst l))) (ea : ixN l.length a = some ja) (ek : ixN l.length k = some jk) (hda : l[ja]? = some da) (hdk : l[jk]? = some dk)
    (g1 : PI0 X e1 ((ss.map (kill (.v i))).set i .no) k) (g2 : PI0 X e2 ((ss.map (kill (.v i))).set i .no) a) (g3 : PI0 X f1 ((ss.map (kill (.v i))).set i .no) a) (g4 : PI0 X f2 ((ss.map (kill (.v i))).set i .no) k)
    (q : E.nx ((ss.map (kill (.v i))).set i (.own (.lst ((l.set ja dk).set jk da)))))
    (hv1 : noView (.v i) ts = true := by rfl) (hc : X.calm = true := by rfl) (hN : X.N[i]? = some x := by rfl) (hv : Vis X.env.scope x := by first | exact Or.inl rfl | exact Or.inr (Or.inl rfl) | exact Or.inr (Or.inr rfl)) (hd : (x == ("__debug__" : Str)) = false := by decide) (hcd : (x == ("__classdict__" : Str)) = false := by decide)
    (s1 : PlainIx e1 := by intro _ _; rfl) (s2 : PlainIx e2 := by intro _ _; rfl)
    (n1 : starEach [.Subscript (.Name x p1) e1 q1, .Subscript (.Name x p2) e2 q2] X.env = (false, eval (.Subscript (.Name x p1) e1 q1) X.env) :: starEach [.Subscript (.Name x p2) e2 q2] X.env := by rfl) (n2 : starEach [.Subscript (.Name x p2) e2 q2] X.env = (false, eval (.Subscript (.Name x p2) e2 q2) X.env) :: starEach [] X.env := by rfl)
    (m1 : (assignEach [.Subscript (.Name x p3) f1 q3, .Subscript (.Name x p4) f2 q4] X.env).map (·.2) = assign (.Subscript (.Name x p3) f1 q3) X.env :: (assignEach [.Subscript (.Name x p4) f2 q4] X.env).map (·.2) := by rfl) (m2 : (assignEach [.Subscript (.Name x p4) f2 q4] X.env).map (·.2) = assign (.Subscript (.Name x p4) f2 q4) X.env :: (assignEach [] X.env).map (·.2) := by rfl)
    (m3 : (assignEach [.Subscript (.Name x p3) f1 q3, .Subscript (.Name x p4) f2 q4] X.env).length = 2 := by rfl) (m4 : (assignEach [.Subscript (.Name x p3) f1 q3, .Subscript (.Name x p4) f2 q4] X.env).findIdx? (·.1) = none := by rfl)
    (t1 : ∀ v, assign (.Subscript (.Name x p3) f1 q3) X.env v = (do
      let ov ← holding [v] (eval (.Name x p3) X.env)
      let iv ← holding [v, ov] (eval f1 X.env)
      standAt q3
      holding [v, ov, iv] (setItem ov iv v)
      release [v, ov, iv] []) := by intro _; rfl)
    (t2 : ∀ v, assign (.Subscript (.Name x p4) f2 q4) X.env v = (do
      let ov ← holding [v] (eval (.Name x p4) X.env)
      let iv ← holding [v, ov] (eval f2 X.env)
      standAt q4
      holding [v, ov, iv] (setItem ov iv v)
      release [v, ov, iv] []) := by intro _; rfl)
    (w1 : swapsWithSole [.Tuple [.Subscript (.Name x p3) f1 q3, .Subscript (.Name x p4) f2 q4] k1 tp] (.Tuple [.Subscript (.Name x p1) e1 q1, .Subscript (.Name x p2) e2 q2] k2 tp2) pos.line X.env = pure false := by rfl) (w2 : swappedStores [.Tuple [.Subscript (.Name x p3) f1 q3, .Subscript (.Name x p4) f2 q4] k1 tp] (.Tuple [.Subscript (.Name x p1) e1 q1, .Subscript (.Name x p2) e2 q2] k2 tp2) X.env = pure none := by rfl)
    (w3 : (assignEach [.Tuple [.Subscript (.Name x p3) f1 q3, .Subscript (.Name x p4) f2 q4] k1 tp] X.env).map (·.2) = [assign (.Tuple [.Subscript (.Name x p3) f1 q3, .Subscript (.Name x p4) f2 q4] k1 tp) X.env] := by rfl) :
    S1 X fx (.Assign [.Tuple [.Subscript (.Name x p3) f1 q3, .Subscript (.Name x p4) f2 q4] k1 tp] (.Tuple [.Subscript (.Name x p1) e1 q1, .Subscript (.Name x p2) e2 q2] k2 tp2) pos) ss ts E := fun B σ tv H D hh kk => by
  obtain ⟨u1, r1, g1⟩ := g1
  obtain ⟨u2, r2, g2⟩ := g2
  obtain ⟨u3, r3, g3⟩ := g3
  obtain ⟨u4, r4, g4⟩ := g4
  refine toS (ps_asg (pe_tup (pa_cons (pe_ix ix_list (pe_var hN hv hd hcd) r1 s1) (pa_cons (pe_ix ix_list (pe_var hN hv hd hcd) r2 s2) pa_nil n2) n1)) (pg_tup hc (pgs_cons (pg_sub (pe_var hN hv hd hcd) r3 set_list t1) (pgs_cons (pg_sub (pe_var hN hv hd hcd) r4 set_list t2) pgs_nil m2) m1) m3 m4) w1 w2 w3) ?_
  obtain ⟨fp, hf⟩ := id hh
  obtain ⟨A, vs, G, x1, a1, f0, rr⟩ := hf.lst h0
  have lv := rr.reps.length
  have lja := getElem?_lt hda
  have ljk := getElem?_lt hdk
  obtain ⟨wa, hwa⟩ : ∃ w, vs[ja]? = some w := ⟨vs[ja]'(by omega), by simp [show ja < vs.length by omega]⟩
  obtain ⟨wk, hwk⟩ : ∃ w, vs[jk]? = some w := ⟨vs[jk]'(by omega), by simp [show jk < vs.length by omega]⟩
  obtain ⟨v0, ev0, hm0⟩ := hf.move h0 hv1
  obtain ⟨fpn, Fn, hn, _, rn, _, on, bn, _⟩ := hm0.take Low.self
  have AF : A ∈ Fn := by
    unfold RepO at rn
    obtain ⟨A', vs', G', e1, _, e2, _⟩ := rn
    rw [x1] at ev0
    have e3 : V.ref A = v0 := Option.some.inj (Option.some.inj ev0)
    rw [← e3] at e1
    cases e1
    rw [e2]
    exact List.mem_cons_self
  refine ⟨.ref A, x1, g1 B _ σ tv ts H _ ⟨_, hn⟩ ⟨A, vs, k, wk, rfl, rfl, SqL.of a1, atI_ix lv ek hwk, ?_⟩⟩
  refine ⟨.ref A, x1, g2 B _ σ tv ts H _ ⟨_, hn⟩ ⟨A, vs, a, wa, rfl, rfl, SqL.of a1, atI_ix lv ea hwa, ?_⟩⟩
  refine ⟨Nat.le_trans (by show 2 ≤ 1000; decide) (by decide), fun p hp => ?_⟩
  have ex := Ex.new (o := .tup [wk, wa]) hp
  have a1' := ex A _ a1
  refine ⟨p, [wk, wa], rfl, .inl (.inl upd_same), rfl, wk, [wa], rfl, .ref A, x1, g3 B _ σ tv ts _ _ ⟨_, hn.ex ex⟩ ⟨A, vs, a, ja, rfl, rfl, a1', by rw [lv]; exact ea, ?_⟩⟩
  have tk : TK (upd H p (.tup [wk, wa])) (upd (upd H p (.tup [wk, wa])) A (.lst (vs.set ja wk))) := TK.upd a1' fun z => z
  have hmid : HeldF X.K _ B (upd (upd H p (.tup [wk, wa])) A (.lst (vs.set ja wk))) fpn σ _ tv ts := (hn.ex ex).heap tk (fun b u e => by
    rw [upd_ne (fun z => ?_)]
    · exact ex b u (hn.base b u e)
    · rw [z, bn A AF] at e
      cases e) fun o b hb => upd_ne fun z => on A AF o (z ▸ hb)
  refine ⟨wa, [], rfl, .ref A, x1, g4 B _ σ tv ts _ _ ⟨_, hmid⟩ ⟨A, vs.set ja wk, k, jk, rfl, rfl, upd_same, by rw [List.length_set, lv]; exact ek, rfl, ?_⟩⟩
  obtain ⟨G', sw, pm⟩ := RepOs.swap (rr.frame ex.tk fun b hb => by
    obtain ⟨u, e, _⟩ := rr.dom b hb
    rw [e]
    exact ex b u e) hda hdk hwa hwk
  have nd := hf.nod (.v i)
  rw [f0] at nd
  have h3 := (hf.ex ex).relist (getElem?_lt h0) x1 a1' f0 sw (pm.nodup_iff.mpr (List.nodup_cons.mp nd).2) (fun b hb => .inl (pm.mem_iff.mp hb)) hv1
  have eu : upd (upd (upd H p (.tup [wk, wa])) A (.lst (vs.set ja wk))) A (.lst ((vs.set ja wk).set jk wa)) = upd (upd H p (.tup [wk, wa])) A (.lst ((vs.set ja wk).set jk wa)) := funext fun b => by
    by_cases z : b = A
    · rw [z, upd_same, upd_same]
    · rw [upd_ne z, upd_ne z, upd_ne z]
  rw [eu]
  exact kk.nx _ σ _ q h3 fun _ _ => rfl
end
end DL
/-! The data layer, part X1: exceptions. -/
namespace DL
open PySem PySem.Spec PyProof.Rows L2

section
variable {X : Cx} {pins : List (Addr × Obj)} {σ : L2.St} {H : Hp} {s : Shared}
/-- a caught exception is tracked from now on -/
theorem _root_.L2.Inv.track {a C : Addr} {d : Option Addr} {oe : Obj} {vs : Array Value} (I : Inv X pins σ H s) (ha : s.heap.get? a = some oe) (hz : Zc (.ref C) d oe) (hd : oe.data = .fields vs) (na : H a = none) (nL : a ≠ X.env.locals)
    (n0 : X.s_0.heap.get? a = none) (np : ∀ p ∈ X.pn ++ pins, p.1 ≠ a) : Inv X pins σ (upd H a (ExA C d a)) s := by
  have ne0 : ∀ b o, X.s_0.heap.get? b = some o → b ≠ a := fun b o e z => by
    rw [z, n0] at e
    cases e
  have nc : ∀ x c, X.env.cells.lookup x = some c → c ≠ a := fun x c e z => by
    obtain ⟨v, o, ho, hd'⟩ := I.cell x c e
    rw [z, ha] at ho
    cases ho
    rw [hd] at hd'
    cases hd'
  refine ⟨I.ok, I.os, I.bare, ⟨I.base.keep, I.base.slot, fun b o e n hx => ?_, I.base.there, fun b xs e => ?_, fun b o u e => ?_, fun b ps e => ?_⟩, I.loc, I.cell, ?_, fun x c e => ?_, fun p hp => ?_, fun b o e => ?_, I.len⟩
  · rw [upd_ne (ne0 b o e)]
    exact I.base.free b o e n hx
  · have q := I.base.tups b xs e
    rw [upd_ne (ne_of_none q na)]
    exact q
  · have q := I.base.frzs b o u e
    rw [upd_ne (ne_of_none q na)]
    exact q
  · obtain ⟨m, q⟩ := I.base.tbls b ps e
    exact ⟨m, by rw [upd_ne (ne_of_none q na)]; exact q⟩
  · rw [upd_ne (Ne.symm nL)]
    exact I.free
  · rw [upd_ne (nc x c e)]
    exact I.freeC x c e
  · obtain ⟨e, n, ne, nf, q⟩ := I.pin p hp
    exact ⟨e, by rw [upd_ne (np p hp)]; exact n, ne, nf, q⟩
  · by_cases hb : b = a
    · subst hb
      rw [upd_same] at e
      cases e
      exact ⟨⟨oe, vs, ha, hz, hd⟩, ⟨oe, ha⟩, fun h1 h2 ⟨o, v, q1, q2, q3⟩ k => ⟨o, v, k _ q1, q2, q3⟩⟩
    · rw [upd_ne hb] at e
      exact (I.hok b o e).stay (fun c v _ q => q) (fun c q => by rw [upd_ne (ne_of_none q na)]; exact q) fun c xs q => by rw [upd_ne (ne_of_none q na)]; exact q
theorem _root_.L2.Inv.suite0 (I : Inv X pins σ H s) (a : Addr) : Inv (X.suite a (X.pn ++ pins)) [] σ H s :=
  ⟨I.ok.suite _ _, I.os, I.bare, I.base, I.loc, I.cell, I.free, I.freeC, fun p hp => I.pin p (by rw [List.append_nil] at hp; exact hp), I.hok, I.len⟩
theorem _root_.L2.Inv.unsuite0 {a : Addr} {pn' : List (Addr × Obj)} (I : Inv (X.suite a (X.pn ++ pins)) pn' σ H s) (ok : X.Ok) : Inv X pins σ H s :=
  ⟨ok, I.os, I.bare, I.base, I.loc, I.cell, I.free, I.freeC, fun p hp => I.pin p (List.mem_append_left _ hp), I.hok, I.len⟩
end

/-- what the clause 'except x as n' wishes of an exception of the body; it is tracked in the suite and behind it -/
def wKeep (K : PySem.W.Frag) (c : Value) (i : Nat) (ts : Addr → TS) (Wout : WX) (D : Ends) : WX := fun cls d σ H =>
  ∃ b, PySem.W.exmOne K cls c = some b ∧ (b = true → ∃ C, cls = .ref C ∧ ∀ a, H a = none → ts a { nx := fun σ' H' => D.nx (σ'.set i none) H', rt := D.rt, bk := fun σ' H' => D.bk (σ'.set i none) H', ct := fun σ' H' => D.ct (σ'.set i none) H' } (σ.set i (some (.ref a))) (upd H a (ExA C d a))) ∧
    (b = false → Wout cls d σ H)
section
variable {X : Cx} {x n : Str} {c : Value} {i : Nat} {body suite : List Stmt} {b₀ : Stmt} {np pos pos' : Pos} {tb : WX → TS} {ts : Addr → TS} {Wout : WX}
theorem ps_try_keep (hex : X.ex = []) (hs : X.stack = X.env :: X.outer) (hf : X.env.frame = some X.env.locals) (hN : X.N.Nodup) (hi : X.N[i]? = some n) (hln : X.env.kindOf n = some .local) (hc : Names X x c) (tk : Takes X Wout)
    (hb : ∀ (W : WX) (pn : List (Addr × Obj)) (xe : Value → Shared → Prop), Takes (X.tr pn xe) W → PassesOwn (model X.prog X.w) X.A X.env xe → PSs (X.tr pn xe) body (tb W))
    (hsu : ∀ (a : Addr) (pn : List (Addr × Obj)), PSs (X.suite a pn) (b₀ :: suite) (ts a)) :
    PS X (.Try body [.ExceptHandler (some (.Name x np)) (some n) (b₀ :: suite) pos'] [] [] pos) (fun D σ H => tb (wKeep X.K c i ts Wout D) D σ H) := by
  refine ⟨fun pins s σ H D I h => ?_⟩
  have ok := I.ok
  have hfr : X.A.frames = some (X.env :: X.outer) := by rw [ok.frames, hs]
  have hloc : Loc X.env.scope n := .inl hln
  refine wpAny_Try_except ?_
  refine wpAny_mono ((hb (wKeep X.K c i ts Wout D) (X.pn ++ pins) (fun e s₁ => wpAny (model X.prog X.w) X.A (noteFrame e X.env) (fun _ s₂ => wpAny (model X.prog X.w) X.A (setFlight e none) (fun _ s₃ =>
    wpAny (model X.prog X.w) X.A (handleBy e X.env [.ExceptHandler (some (.Name x np)) (some n) (b₀ :: suite) pos']) (SP X pins D) X.xe s₃) X.xe s₂) X.xe s₁) (fun u s' xx => ?_) PassesOwn.looking).run [] s σ H D (I.toTry _) h) (fun f s1 hsp => ?_) (fun e s1 he => he)
  · obtain ⟨a, B, sI, pins', σ', H', cls, d, rfl, J', nb, up, sky, na, os, ag, b, hb1, hyes, hno⟩ := xx
    have J : Inv X pins σ' H' sI := J'.ofTry ok
    have sky' : Sky B (X.env :: X.outer) a (Zc cls d) X.env.locals s'.heap := by rw [← hs]; exact sky
    show wpAny (model X.prog X.w) X.A (noteFrame (.ref a) X.env) _ _ _
    refine Sky.land Zc.steady hfr hf sky' fun h3 fl3 up3 => ?_
    have J3 : Inv X pins σ' H' { s' with heap := h3 } := J.landed nb fl3.1 (up.trans up3) os ag
    obtain ⟨oe3, vs3, he3, hz3, hd3⟩ := fl3.there
    have notFr : ∀ {h : Heap} {o : Obj} {vs : Array Value}, h.FunFrames B (X.env :: X.outer) → h.get? a = some o → o.data = .fields vs → a ∉ frs (X.env :: X.outer) := fun {h o vs} ff e dd hm => by
      obtain ⟨_, o', e', hnf⟩ := ff.mem hm
      rw [e] at e'; cases e'
      exact hnf _ dd
    have nfr := notFr fl3.2.2.1 he3 hd3
    have nL : a ≠ X.env.locals := fun z => nfr (List.mem_filterMap.mpr ⟨X.env, List.mem_cons_self, by rw [hf, z]⟩)
    have nF : a ∉ X.fs := fun hm => by
      obtain ⟨e, he, q⟩ := List.mem_filterMap.mp hm
      exact nfr (List.mem_filterMap.mpr ⟨e, List.mem_cons_of_mem _ he, q⟩)
    have nB : B.get? a = none := fl3.2.1
    have nsI : ∀ b o, sI.heap.get? b = some o → b ≠ X.env.locals → b ∉ X.fs → b ≠ a := fun b o e n1 n2 z => by
      have n3 : b ∉ frs X.stack := fun hm => by
        rcases List.mem_cons.mp (I.stkSub b hm) with z | z
        · exact n1 z
        · exact n2 z
      have y := nb b o e n3
      rw [z, nB] at y
      cases y
    have n0 : X.s_0.heap.get? a = none := by
      cases e : X.s_0.heap.get? a with
      | none => rfl
      | some o =>
        obtain ⟨o', e'⟩ := J.base.there a o e (by rw [hex]; exact fun z => nomatch z)
        exact absurd rfl (nsI a o' e' nL nF)
    have S3 := J3.suite0 a
    refine wpAny_handleBy_cons (codeAny_handlers_test ?_) (by intro q; cases q)
    have LT : PySem.W.Looks (model X.prog X.w) h3 (typeOf (.ref a)) cls := fun A Q E s k q => wpAny_typeOf_ref (k _ _ he3) (by rw [hz3.1]; exact q)
    have LM := PySem.W.exm_one (M := model X.prog X.w) (J3.kIn) LT hb1
    have test : ∀ {Q : Value → Shared → Prop} {E : Value → Shared → Prop}, Q c { s' with heap := h3 } → wpAny (model X.prog X.w) (X.A.mark (some (.ref a))) (eval (.Name x np) X.env) Q E { s' with heap := h3 } := fun {Q E} q => by
      obtain ⟨hg, hdbg, hm | ⟨hm, hv, hnn⟩⟩ := hc
      · exact ld_glob (X := X.suite a (X.pn ++ pins)) S3 hg hm q hdbg
      · exact ld_blt (X := X.suite a (X.pn ++ pins)) S3 hg hm hv q hnn hdbg
    refine test (LM.here ?_)
    cases b with
    | true =>
      obtain ⟨C, rfl, hy2⟩ := hyes rfl
      refine codeAny_handlers_suite_as ?_
      refine HandSPX.lands_againZ fl3 fun h4 fl4 up4 => ?_
      have J4 : Inv X pins σ' H' { s' with heap := h4 } := J.landed nb fl4.1 ((up.trans up3).trans up4) os ag
      obtain ⟨oe4, vs4, he4, hz4, hd4⟩ := fl4.there
      have J5 := Inv.track J4 he4 hz4 hd4 na nL n0 (fun p hp => by
        obtain ⟨e, _, n1, n2, _⟩ := J.pin p hp
        exact nsI _ _ e n1 n2)
      have S4 := J5.suite0 a
      refine store_ok (X := X.suite a (X.pn ++ pins)) (v := .ref a) S4 hN hi hloc rfl (fun s5 S5 => ?_) (.inr hln)
      refine wpAny_mono ((hsu a (X.pn ++ pins)).run [] s5 _ _ _ S5 (hy2 a na)) (fun f s6 hsp => ?_) (fun _ _ z => False.elim z)
      have end_ : ∀ {σ6 : L2.St} {H6 : Hp} {Q : Shared → Prop}, Inv (X.suite a (X.pn ++ pins)) [] σ6 H6 s6 → (∀ s7, Inv X pins (σ6.set i none) H6 s7 → Q s7) →
          wpAny (model X.prog X.w) X.A (do bindName X.env n .none; unbindBehindTheSuite X.env n pos') (fun _ s7 => Q s7) X.xe s6 := fun {σ6 H6 Q} S6 hq => gone_ok (S6.unsuite0 ok) hN hi hln hq
      cases f with
      | next =>
        obtain ⟨σ6, H6, S6, q6⟩ := hsp
        exact end_ S6 fun s7 J7 => ⟨_, _, J7, q6⟩
      | brk =>
        obtain ⟨σ6, H6, S6, q6⟩ := hsp
        exact end_ S6 fun s7 J7 => ⟨_, _, J7, q6⟩
      | cont =>
        obtain ⟨σ6, H6, S6, q6⟩ := hsp
        exact end_ S6 fun s7 J7 => ⟨_, _, J7, q6⟩
      | ret u =>
        obtain ⟨v6, σ6, H6, S6, r6, q6⟩ := hsp
        exact end_ S6 fun s7 J7 => ⟨_, _, _, J7, r6, q6⟩
    | false =>
      show wpAny _ X.A (handleBy (.ref a) X.env []) _ _ _
      refine wpAny_handleBy_nil ?_
      obtain ⟨k1, k2, k3, oe, vs, T, oT, ts', he, hz, hd, h1, hr⟩ := id fl3
      unfold PySem.passOn
      refine wpAny_bind (wpAny_field he hd h1 ?_)
      rw [if_neg (show ¬ ((Value.ref T == Value.none) = true) from by simp)]
      have fin : wpAny (model X.prog X.w) X.A (setFlight (.ref a) X.env.frame) (fun _ s4 => wpAny (model X.prog X.w) X.A (throw (.ref a) : Sem Flow) (SP X pins D) X.xe s4) X.xe { s' with heap := h3 } := by
        rw [hf]
        refine HandSPX.setFlight_upZ fl3 fun h4 hh4 up4 => wpAny_throw (tk _ _ ?_)
        exact ⟨a, B, sI, pins, σ', H', cls, d, rfl, J, nb, (up.trans up3).trans up4, .inr (.inr (by rw [hs]; exact hh4)), na, os, ag, hno rfl⟩
      first
        | exact wpAny_bind (wpAny_pure (wpAny_bind fin))
        | exact wpAny_bind fin
  · cases f with
    | next =>
      obtain ⟨σ', H', J', q⟩ := hsp
      exact wpAny_execs_nil ⟨σ', H', J'.ofTry ok, q⟩
    | brk =>
      obtain ⟨σ', H', J', q⟩ := hsp
      exact ⟨σ', H', J'.ofTry ok, q⟩
    | cont =>
      obtain ⟨σ', H', J', q⟩ := hsp
      exact ⟨σ', H', J'.ofTry ok, q⟩
    | ret u =>
      obtain ⟨v, σ', H', J', r, q⟩ := hsp
      exact ⟨v, σ', H', J'.ofTry ok, r, q⟩
end
end DL
/-! The data layer, part X2: judgements with exceptions. -/
namespace DL
open PySem PySem.Spec PyProof.Rows L2

/-- an exception as data: its class, the names of its fields, their values -/
structure XD where
  C : Addr
  ns : List Str := []
  l : List D := []
def XD.d (x : XD) : D := .exc x.C x.ns x.l
def ExcAt (K : PySem.W.Frag) (H : Hp) (cls : Value) (d : Option Addr) (x : XD) : Prop := cls = .ref x.C ∧ D.flats x.l = true ∧ ∃ fs, xdOk H d fs ∧ fs.map (·.1) = x.ns ∧ RepRs K H x.l (fs.map (·.2))
def WR (K : PySem.W.Frag) (B : Hp) (fx : List Nat) (σ0 : List (Option V)) (tv : List V) (ts : List Slot) (R : XD → List Slot → Prop) : WX := fun cls d σ H =>
  ∃ x ss, R x ss ∧ ExcAt K H cls d x ∧ (∀ i, i ∈ fx → σ[i]? = σ0[i]?) ∧ Held K (fun k => k < ts.length) B H σ (ss.map (killT ts.length)) tv ts
/-- X takes the exceptions of which R tells -/
structure XT (X : Cx) (B : Hp) (fx : List Nat) (σ : List (Option V)) (tv : List V) (ts : List Slot) (R : XD → List Slot → Prop) : Prop where
  tk : Takes X (WR X.K B fx σ tv ts R)
  ps : PassesOwn (model X.prog X.w) X.A X.env X.xe
theorem killT_killT {n k : Nat} (h : n ≤ k) (s : Slot) : killT n (killT k s) = killT n s := by
  cases s with
  | view o d =>
    cases o with
    | v i => rfl
    | t j =>
      rw [killT_t, killT_t]
      by_cases h1 : j < k
      · rw [if_pos h1, killT_t]
      · rw [if_neg h1, if_neg (by omega)]
        rfl
  | _ => rfl
theorem XT.ups {X : Cx} {B : Hp} {fx : List Nat} {σ : List (Option V)} {tv rv : List V} {ts rs : List Slot} {R : XD → List Slot → Prop} (t : XT X B fx σ tv ts R) (l : rv.length = rs.length) (low : VOk (fun k => k < ts.length) (rs ++ ts)) : XT X B fx σ (rv ++ tv) (rs ++ ts) R :=
  ⟨t.tk.imp fun cls d σ' H ⟨x, ss, h1, h2, h4, h5⟩ => ⟨x, ss, h1, h2, h4, by
    have z := (h5.less (n := ts.length) (fun _ _ q => q) (Low.self.app rs) low).popN l Low.self
    rw [List.map_map] at z
    have e : (killT ts.length ∘ killT (rs ++ ts).length) = killT ts.length := funext fun s => killT_killT (by rw [List.length_append]; omega) s
    rw [e] at z
    exact z⟩, t.ps⟩
theorem XT.to {X : Cx} {B : Hp} {fx : List Nat} {σ σ' : List (Option V)} {tv : List V} {ts : List Slot} {R : XD → List Slot → Prop} (t : XT X B fx σ tv ts R) (e : ∀ i, i ∈ fx → σ'[i]? = σ[i]?) : XT X B fx σ' tv ts R :=
  ⟨t.tk.imp fun cls d σ2 H ⟨x, ss, h1, h2, h4, h5⟩ => ⟨x, ss, h1, h2, fun i hi => (h4 i hi).trans (e i hi), h5⟩, t.ps⟩

def EVX (X : Cx) (B : Hp) (e : Expr) (ss ts : List Slot) (Φ : List Slot → Slot → Prop) (R : XD → List Slot → Prop) : Prop :=
  ∀ m fx σ tv H Q, Low m ts.length → Held X.K m B H σ ss tv ts → (∀ ss' r v H', Φ ss' r → Held X.K m B H' σ ss' (v :: tv) (r :: ts) → Q v H') → XT X B fx σ tv ts R → wE X e σ H Q
def SVX (X : Cx) (B : Hp) (fx : List Nat) (sts : List Stmt) (ss ts : List Slot) (E : DE) (R : XD → List Slot → Prop) : Prop :=
  ∀ σ tv H D, Held X.K (fun k => k < ts.length) B H σ ss tv ts → EndsOk X.K B fx σ tv ts E D → XT X B fx σ tv ts R → wSs X sts D σ H
def S1X (X : Cx) (B : Hp) (fx : List Nat) (st : Stmt) (ss ts : List Slot) (E : DE) (R : XD → List Slot → Prop) : Prop :=
  ∀ σ tv H D, Held X.K (fun k => k < ts.length) B H σ ss tv ts → EndsOk X.K B fx σ tv ts E D → XT X B fx σ tv ts R → wS X st D σ H

theorem _root_.L2.PS.nox {X : Cx} {st : Stmt} {t : TS} (h : PS X.nox st t) : PS X st t := ⟨fun pins s σ H D I hw =>
  wpAny_mono (h.run pins s σ H D (I.wish _) hw) (fun _ _ q => q.unwish) fun _ _ z => False.elim z⟩

section
variable {X : Cx} {B : Hp} {fx : List Nat} {ss ts : List Slot} {Φ : List Slot → Slot → Prop} {e a b c tg it : Expr} {es : List Expr} {pos p : Pos} {E : DE} {st : Stmt} {rest sts sts2 : List Stmt} {R : XD → List Slot → Prop}
theorem evx_ev (h : EV X.nox e ss ts Φ) : EVX X B e ss ts Φ R := fun m fx σ tv H Q hm hh k _ => toE (PE.nox pe_w) (h m B σ tv H Q hm hh k)
theorem s1x_s1 (h : S1 X.nox fx st ss ts E) : S1X X B fx st ss ts E R := fun σ tv H D hh k _ => toS (PS.nox ps_w) (h B σ tv H D hh k)
theorem svx_sv (h : SV X.nox fx sts ss ts E) : SVX X B fx sts ss ts E R := fun σ tv H D hh k _ => toSs (PSs.nox pss_w) (h B σ tv H D hh k)
theorem svx_nil (q : E.nx ss) : SVX X B fx [] ss ts E R := svx_sv (sv_nil q)
theorem svx_cons (h : S1X X B fx st ss ts (E.thn fun s => SVX X B fx rest s ts E R) R) : SVX X B fx (st :: rest) ss ts E R := fun σ tv H D hh k t => by
  refine toSs (pss_cons ps_w pss_w) ?_
  refine h σ tv H _ hh ⟨fun s σ' H' q h' z => ?_, k.rt, k.bk, k.ct⟩ t
  exact q σ' tv H' D h' (k.to z) (t.to z)
theorem svx_one (h : S1X X B fx st ss ts E R) : SVX X B fx [st] ss ts E R := fun σ tv H D hh k t => toSs (pss_one ps_w) (h σ tv H D hh k t)
theorem s1x_expr (h : EVX X B e ss ts (fun s _ => E.nx s) R) (hs : swapsWith e none pos.line X.env = pure false := by rfl) : S1X X B fx (.Expr e pos) ss ts E R := fun σ tv H D hh k t => by
  refine toS (ps_expr pe_w hs) ?_
  exact h (fun k => k < ts.length) fx σ tv H _ Low.self hh (fun s r v H' q h' => k.nx s σ H' q (h'.pop Low.self) fun _ _ => rfl) t
theorem s1x_ret (h : EVX X B e ss ts (fun s r => E.rt s r) R) : S1X X B fx (.Return (some e) pos) ss ts E R := fun σ tv H D hh k t => by
  refine toS (ps_ret pe_w) ?_
  exact h (fun k => k < ts.length) fx σ tv H _ Low.self hh (fun s r v H' q h' => k.rt s r σ v H' q h' fun _ _ => rfl) t
theorem s1x_if (h : TV X c ss ts fun s t => (t = true → SVX X B fx sts s ts E R) ∧ (t = false → SVX X B fx sts2 s ts E R)) : S1X X B fx (.If c sts sts2 pos) ss ts E R := fun σ tv H D hh k xt => by
  refine toS (ps_if pt_w pss_w pss_w) ?_
  refine h (fun k => k < ts.length) B σ tv H _ Low.self hh fun s t H1 ⟨q1, q2⟩ hh1 => ?_
  cases t with
  | true => exact iteT (q1 rfl σ tv H1 D hh1 k xt)
  | false => exact iteF (q2 rfl σ tv H1 D hh1 k xt)
theorem s1x_set {i : Nat} {x : Str} {pos' : Pos} (hN : X.N.Nodup) (hi : X.N[i]? = some x) (hx : Loc X.env.scope x) (hfx : i ∉ fx) (hil : (ss[i]?).isSome = true)
    (h : EVX X B e ss ts (fun s r => s.length = ss.length ∧ noView (.v i) (r :: ts) = true ∧ E.nx ((s.map (kill (.v i))).set i r)) R) (hs : swapsWith e (some (.Name x pos')) pos.line X.env = pure false := by rfl)
    (hf : X.fn x = true ∨ X.env.scope.names.lookup x = some .local := by first | exact .inl rfl | exact .inr rfl | assumption) : S1X X B fx (.Assign [.Name x pos'] e pos) ss ts E R := fun σ tv H D hh k xt => by
  refine toS (ps_set hN hi hx pe_w hs hf) ?_
  refine h (fun k => k < ts.length) fx σ tv H _ Low.self hh (fun s r v H' ⟨l, n1, q⟩ h' => ?_) xt
  refine k.nx _ _ H' q (h'.assign Low.self (by rw [l]; exact isSome_lt hil) (noView_tail n1) (noView_head n1)) fun j hj => ?_
  exact List.getElem?_set_ne (fun z => by subst z; exact hfx hj)
theorem s1x_for {as : List Nat} (hc : X.calm = true) (hfx : ∀ i, i ∈ fx → i ∉ as)
    (h : IV X tg it ss ts fun s1 rs els => ∃ I : Nat → List Slot → Prop, I 0 s1 ∧
      (∀ i el s, els[i]? = some el → I i s → GV X tg as el s (rs ++ ts) fun s' => SVX X B fx sts s' (rs ++ ts)
        (E.turn (I (i + 1)) ts.length) R) ∧
      ∀ s, I els.length s → E.nx (s.map (killT ts.length)))
    (hs : ∀ x, foldedSetIterable it X.env x = pure x := by intro _; rfl) : S1X X B fx (.For tg it sts [] pos) ss ts E R := fun σ tv H D hh k xt => by
  refine toS (ps_for xt.ps hc pi_w pg_w pss_w hs) ?_
  refine h (fun k => k < ts.length) B σ tv H _ Low.self hh fun s1 rs rv els J H1 ⟨I, i0, step, fin⟩ rl h1 io => ?_
  have low := h1.vok
  have len : (rs ++ ts).length = ts.length + rs.length := by rw [List.length_append]; omega
  refine ⟨fun i n σ' H' => n = els.length - i ∧ i ≤ els.length ∧ (∀ i, i ∈ fx → σ'[i]? = σ[i]?) ∧ ∃ s, I i s ∧ Held X.K (fun k => k < (rs ++ ts).length) B H' σ' s (rv ++ tv) (rs ++ ts),
    ⟨_, rfl, Nat.zero_le _, fun _ _ => rfl, s1, i0, h1.more (fun k q => by omega) Low.self⟩, ?_⟩
  rintro i n σ' H' ⟨rfl, hi, hz, s, hI, h'⟩
  obtain ⟨go, stop⟩ := io _ _ _ _ _ [] [] _ _ h' rfl rfl (fun k _ q => by omega)
  have leave : ∀ {s σ2 H2}, Held X.K (fun k => k < (rs ++ ts).length) B H2 σ2 s (rv ++ tv) (rs ++ ts) → Held X.K (fun k => k < ts.length) B H2 σ2 (s.map (killT ts.length)) tv ts := fun h => (h.less (fun _ _ q => q) (Low.self.app rs) low).popN rl Low.self
  by_cases hlt : i < els.length
  · obtain ⟨el, he⟩ : ∃ el, els[i]? = some el := ⟨els[i], by simp [hlt]⟩
    obtain ⟨g1, g2⟩ := go i el he
    refine .inr ⟨g1, fun σ2 H2 => (∀ i, i ∈ fx → σ2[i]? = σ[i]?) ∧ ∃ s, I (i + 1) s ∧ Held X.K (fun k => k < (rs ++ ts).length) B H2 σ2 s (rv ++ tv) (rs ++ ts), fun σ2 H2 ⟨z2, q2⟩ => ⟨els.length - (i + 1), by omega, rfl, hlt, z2, q2⟩, fun x H2 y => ?_⟩
    refine step i el s he hI _ B σ' (rv ++ tv) H2 x _ Low.self (g2 x H2 y) fun s3 σ3 H3 q3 h3 z3 => ?_
    have z4 : ∀ i, i ∈ fx → σ3[i]? = σ[i]? := fun j hj => (z3.1 j (hfx j hj)).trans (hz j hj)
    refine q3 σ3 (rv ++ tv) H3 _ h3 ⟨fun s5 σ5 H5 q5 h5 z5 => ⟨fun j hj => (z5 j hj).trans (z4 j hj), s5, q5, h5⟩, fun s5 r5 σ5 v5 H5 ⟨d5, e5, q5⟩ h5 z5 => ?_, fun s5 σ5 H5 q5 h5 z5 => k.nx _ σ5 H5 q5 (leave h5) fun j hj => (z5 j hj).trans (z4 j hj),
      fun s5 σ5 H5 q5 h5 z5 => ⟨fun j hj => (z5 j hj).trans (z4 j hj), s5, q5, h5⟩⟩ ((xt.to z4).ups rl low)
    subst e5
    refine k.rt _ _ σ5 v5 H5 q5 (Held.under (rv := rv) (rs := rs) (h5.less (m := fun k => k < ts.length) (n := ts.length) (fun _ _ q => q) (Low.self.app (.own d5 :: rs)) (fun s hs => by
      rcases List.mem_cons.mp hs with rfl | hs
      · exact fun _ _ z => nomatch z
      · exact low s hs)) rl Low.self) fun j hj => (z5 j hj).trans (z4 j hj)
  · have e : i = els.length := by omega
    subst e
    exact .inl ⟨stop _ (Nat.le_refl _), k.nx _ σ' H' (fin s hI) (leave h') hz⟩
/-- a statement of a context that lets nothing out -/
theorem s1_of_s1x (hx : X.nox = X) (h : ∀ B, S1X X B fx st ss ts E fun _ _ => False) : S1 X fx st ss ts E := fun B σ tv H D hh k => by
  refine h B σ tv H D hh k ⟨takes0.imp fun _ _ _ _ ⟨_, _, z, _⟩ => z, ?_⟩
  rw [← hx]
  exact PassesOwn.never

/-! ### raise -/
def wMk (X : Cx) (e : Expr) : L2.St → Hp → XK → Prop := fun σ H Q => ∀ pins s, Inv X pins σ H s → wpAny (model X.prog X.w) X.A (eval e X.env) (MkP X pins σ Q) X.xe s
theorem pmk_w : PMk X e (wMk X e) := fun pins s σ H Q I h => h pins s I
theorem toMk {t : L2.St → Hp → XK → Prop} {σ : L2.St} {H : Hp} {Q : XK} (p : PMk X e t) (q : t σ H Q) : wMk X e σ H Q := fun pins s I => p pins s σ H Q I q
/-- an exception is made -/
def MV (X : Cx) (e : Expr) (ss ts : List Slot) (Ψ : List Slot → XD → Prop) : Prop :=
  ∀ m B σ tv H Q, Low m ts.length → Held X.K m B H σ ss tv ts → (∀ ss' x cls d H', Ψ ss' x → ExcAt X.K H' cls d x → Held X.K m B H' σ ss' tv ts → Q cls d H') → wMk X e σ H Q
theorem s1x_raise (hc : X.calm = true) (h : MV X e ss ts fun s x => R x s) : S1X X B fx (.Raise (some e) none pos) ss ts E R := fun σ tv H D hh k xt => by
  refine toS (ps_raise hc xt.tk pmk_w) ?_
  refine h (fun k => k < ts.length) B σ tv H _ Low.self hh fun ss' x cls d H' q1 q2 h' => ?_
  exact ⟨x, ss', q1, q2, fun _ _ => rfl, h'.less (fun _ _ q => q) Low.self h'.vok⟩
theorem excAt_plain {K : PySem.W.Frag} {H : Hp} {C : Addr} : ExcAt K H (.ref C) none ⟨C, [], []⟩ := ⟨rfl, by unfold D.flats; rfl, [], .inl ⟨rfl, rfl⟩, rfl, by unfold RepRs; rfl⟩
/-- what an own exception class without own __init__ has -/
structure ExK (K : PySem.W.Frag) (mg : Str → Option Value) (x : Str) (C : Addr) : Prop where
  ex : PySem.W.excIn K C He.veBase "ValueError.__new__" = true
  gC : mg x = some (.ref C)
  kC : PySem.W.keepIn K (.ref C) = true
  bC : PySem.W.subIn K (.ref C) (.type "BaseException") = some true
  tC : PySem.W.typeIn K (.ref C) = some (.type "type")
theorem mk_text {x : Str} {mm : Str} {C : Addr} {j : Nat} {p p2 pos : Pos} {Ψ : List Slot → XD → Prop} (T : ExK X.K X.mg x C) (q : Ψ ss ⟨C, [], []⟩) (hg : Gl X x := by rfl) (hdb : (x == ("__debug__" : Str)) = false := by decide) : MV X (.Call (.Name x p) [.Constant (.str mm) j p2] [] pos) ss ts Ψ := fun m B σ tv H Q hm hh k =>
  toMk (pmk_own PySem.F.excBase_ValueError T.ex T.gC T.kC (raises_own T.bC T.tC) hg hdb) (k ss _ _ none H q excAt_plain hh)

/-! ### try -/
theorem held_no {K : PySem.W.Frag} {m : Nat → Prop} {B H : Hp} {σ : List (Option V)} {tv : List V} {i : Nat} {y : Option V} (h : Held K m B H σ ss tv ts) (e : ss[i]? = some .no) : Held K m B H (σ.set i y) ss tv ts := by
  obtain ⟨fp, h⟩ := h
  refine ⟨fp, h.base, by simpa using h.slen, h.tlen, h.mle, fun j s es => ?_, h.tmp, h.disj, h.nod, h.out, h.dom⟩
  by_cases hj : j = i
  · subst hj
    rw [e] at es
    cases es
    trivial
  · rw [List.getElem?_set_ne (Ne.symm hj)]
    exact h.var j s es
@[reducible] def DE.gone (E : DE) (i : Nat) : DE := ⟨fun s => E.nx ((s.map (kill (.v i))).set i .no), E.rt, fun s => E.bk ((s.map (kill (.v i))).set i .no), fun s => E.ct ((s.map (kill (.v i))).set i .no)⟩
theorem held_gone {K : PySem.W.Frag} {m : Nat → Prop} {B H : Hp} {σ : List (Option V)} {tv : List V} {i : Nat} (hm : Low m ts.length) (h : Held K m B H σ ss tv ts) (hi : i < ss.length) (ht : noView (.v i) ts = true) : Held K m B H (σ.set i none) ((ss.map (kill (.v i))).set i .no) tv ts := by
  have h1 := (h.pushF (v := .non) (d := .non) o_non)
  have h2 := h1.assign hm hi ht (fun _ z => nomatch z)
  have h3 : Held K m B H (σ.set i (some .non)) ((ss.map (kill (.v i))).set i .no) tv ts := by
    obtain ⟨fp, h2⟩ := h2
    have l1 : i < (ss.map (kill (.v i))).length := by simpa using hi
    refine ⟨fp, h2.base, by simpa using h2.slen, h2.tlen, h2.mle, fun j s es => ?_, h2.tmp, h2.disj, h2.nod, h2.out, h2.dom⟩
    by_cases hj : j = i
    · subst hj
      rw [List.getElem?_set_self l1] at es
      cases es
      trivial
    · rw [List.getElem?_set_ne (Ne.symm hj)] at es
      exact h2.var j s (by rw [List.getElem?_set_ne (Ne.symm hj)]; exact es)
  have h4 := held_no (i := i) (y := none) h3 (List.getElem?_set_self (by simpa using hi))
  rw [List.set_set] at h4
  exact h4
/-- the class that an except clause names: its answer for x -/
def Cau (K : PySem.W.Frag) (c : Value) (x : XD) (b : Bool) : Prop := PySem.W.exmOne K (.ref x.C) c = some b
theorem s1x_try {i : Nat} {x n : Str} {c : Value} {b₀ : Stmt} {body suite : List Stmt} {np pos' : Pos} (hex : X.ex = []) (hs : X.stack = X.env :: X.outer) (hf : X.env.frame = some X.env.locals) (hN : X.N.Nodup) (hi : X.N[i]? = some n) (hln : X.env.kindOf n = some .local) (hc : Names X x c)
    (hfx : i ∉ fx) (ht : noView (.v i) ts = true)
    (hb : ∀ pn xe, SVX (X.tr pn xe) B fx body ss ts E fun y s => ∃ b, Cau X.K c y b ∧ (b = true → i < s.length ∧ ∀ a pn, SV (X.suite a pn) fx (b₀ :: suite) (((s.map (killT ts.length)).map (kill (.v i))).set i (.own y.d)) ts { E.gone i with nx := fun s => i < s.length ∧ (E.gone i).nx s, rt := fun s r => i < s.length ∧ noView (.v i) (r :: ts) = true ∧ ∃ d, r = .own d ∧ E.rt ((s.map (kill (.v i))).set i .no) r, bk := fun s => i < s.length ∧ (E.gone i).bk s, ct := fun s => i < s.length ∧ (E.gone i).ct s }) ∧ (b = false → R y s)) :
    S1X X B fx (.Try body [.ExceptHandler (some (.Name x np)) (some n) (b₀ :: suite) pos'] [] [] pos) ss ts E R := fun σ tv H D hh k xt => by
  refine toS (ps_try_keep (tb := fun W D σ H => ∀ pn xe, Takes (X.tr pn xe) W → PassesOwn (model X.prog X.w) X.A X.env xe → wSs (X.tr pn xe) body D σ H) (ts := fun a D σ H => ∀ pn, wSs (X.suite a pn) (b₀ :: suite) D σ H) hex hs hf hN hi hln hc xt.tk
    (fun W pn xe t1 t2 => ⟨fun pins s σ H D I h => pss_w.run pins s σ H D I (h pn xe t1 t2)⟩) (fun a pn => ⟨fun pins s σ H D I h => pss_w.run pins s σ H D I (h pn)⟩)) ?_
  intro pn xe t1 t2
  have low := hh.vok
  refine hb pn xe σ tv H D hh k ⟨t1.imp fun cls d σ' H' hw => ?_, t2⟩
  obtain ⟨y, s, ⟨b, hb1, h1, h2⟩, ⟨rfl, fl, fs, xd, en, rr⟩, z, held⟩ := hw
  refine ⟨b, hb1, fun bt => ⟨y.C, rfl, fun a na pn => ?_⟩, fun bf => ⟨y, s, h2 bf, ⟨rfl, fl, fs, xd, en, rr⟩, z, held⟩⟩
  obtain ⟨il, h1⟩ := h1 bt
  have ex : Ex H' (upd H' a (ExA y.C d a)) := Ex.new na
  have hA : Held X.K (fun k => k < ts.length) B (upd H' a (ExA y.C d a)) σ' (s.map (killT ts.length)) tv ts := Held.ex held ex
  have ro : RepO X.K (upd H' a (ExA y.C d a)) y.d (.ref a) [] := by
    have fl2 : (XD.d y).flat = true := by unfold XD.d DL.D.flat; exact fl
    refine RepR.flatO ?_ fl2
    unfold XD.d RepR
    exact ⟨a, d, fs, rfl, upd_same, ex.tk.xd xd, en, rr.mono ex⟩
  have hB := (hA.pushF ro).assign Low.self (i := i) (by simpa using il) ht (fun _ z => nomatch z)
  refine h1 a pn B _ tv _ _ hB ⟨fun s5 σ5 H5 ⟨q6, q5⟩ h5 z5 => ?_, fun s5 r5 σ5 v5 H5 ⟨q6, q7, d5, e5, q5⟩ h5 z5 => ?_, fun s5 σ5 H5 ⟨q6, q5⟩ h5 z5 => ?_, fun s5 σ5 H5 ⟨q6, q5⟩ h5 z5 => ?_⟩
  · refine k.nx _ _ H5 q5 (held_gone Low.self h5 q6 ht) fun j hj => ?_
    have nj : i ≠ j := fun z => hfx (by rw [z]; exact hj)
    rw [List.getElem?_set_ne nj, z5 j hj, List.getElem?_set_ne nj]
    exact z j hj
  · subst e5
    refine k.rt _ _ (σ5.set i none) v5 H5 q5 (held_gone (Low.self.up) h5 q6 q7) fun j hj => ?_
    have nj : i ≠ j := fun z => hfx (by rw [z]; exact hj)
    rw [List.getElem?_set_ne nj, z5 j hj, List.getElem?_set_ne nj]
    exact z j hj
  · refine k.bk _ _ H5 q5 (held_gone Low.self h5 q6 ht) fun j hj => ?_
    have nj : i ≠ j := fun z => hfx (by rw [z]; exact hj)
    rw [List.getElem?_set_ne nj, z5 j hj, List.getElem?_set_ne nj]
    exact z j hj
  · refine k.ct _ _ H5 q5 (held_gone Low.self h5 q6 ht) fun j hj => ?_
    have nj : i ≠ j := fun z => hfx (by rw [z]; exact hj)
    rw [List.getElem?_set_ne nj, z5 j hj, List.getElem?_set_ne nj]
    exact z j hj
end
end DL
/-! The data layer, part X3: defs that raise, isinstance and fields of exceptions, list + list, zip. -/
namespace DL
open PySem PySem.Spec PyProof.Rows L2

/-! ### a raising def -/
abbrev FX := List D → (D → Prop) → (XD → Prop) → Prop
def spX (K : PySem.W.Frag) (F : FX) : L2.Sp := fun vs H Q E => ∃ ds kn kx, RepRs K H ds vs ∧ F ds kn kx ∧ (∀ d v H', kn d → New K H H' v d → Q v H') ∧ (∀ x cls d H', kx x → Ex H H' → ExcAt K H' cls d x → E cls d H')
section
variable {P : Program} {w : World} {K : PySem.W.Frag} {mg : Str → Option Value} {base : Heap}
theorem fun_okX {x qual : Str} {st : Stmt} {dvs : List V} {f : Addr} {fd : FuncData} {N ps : List Str} {k : Nat} {F : FX} (Fn : FunD K x qual (defArgs st) (defBody st) (defScope st) dvs [] f fd) (S : FnScope N ps (defScope st))
    (len : ∀ ds q r, F ds q r → ds.length = ps.length)
    (hbody : ∀ (cdv : Value) (A : Around) (outer : List Env) (s : Shared) (H : Hp) (E : XK), Room k (A.deeper (envOfC qual (defScope st) s.heap.objs.size f cdv)) → ∀ ds (q : D → Prop) (r : XD → Prop), F ds q r →
      SVX (cxOf (L2.CX P w) P w K mg base N qual (defScope st) f cdv A outer s H E) H [] (defBody st) (ds.map Slot.par ++ List.replicate (N.length - ps.length) .no) []
        { nx := fun _ => q .non, rt := fun _ r => ∃ d, r = .own d ∧ q d } (fun y _ => r y)) :
    FnOk P w K mg base (L2.CX P w) (k + 1) f fd ps (spX K F) := by
  refine Fn.ok S (fun vs H Q E ⟨ds, kn, kx, rr, hF, _⟩ => ?_) fun cdv A outer s H vs Q E hr ⟨ds, kn, kx, rr, hF, hn, hx⟩ => ?_
  · have l1 := len ds _ _ hF
    have := rr.length
    omega
  · have l1 := len ds _ _ hF
    have l2 := rr.length
    refine ⟨_, pss_w, ?_⟩
    have st0 : start N vs = vs.map some ++ List.replicate (N.length - vs.length) none := rfl
    obtain ⟨fp, hf⟩ := held_par rr
    have h0 : Held K (fun k => k < 0) H H (start N vs) (ds.map Slot.par ++ List.replicate (N.length - ps.length) .no) [] [] := by
      refine ⟨fp, hf.base, ?_, rfl, Low.self, fun i s e => ?_, fun k s e => by simp at e, hf.disj, hf.nod, hf.out, hf.dom⟩
      · rw [st0]
        simp only [List.length_append, List.length_map, List.length_replicate]
        omega
      · by_cases hi : i < (ds.map Slot.par).length
        · rw [List.getElem?_append_left hi] at e
          rw [st0, List.getElem?_append_left (by simpa [l2] using hi)]
          exact hf.var i s e
        · rw [List.getElem?_append_right (Nat.le_of_not_lt hi)] at e
          have e2 : s = .no := by
            rw [List.getElem?_replicate] at e
            split at e
            · exact (Option.some.inj e).symm
            · cases e
          subst e2
          trivial
    refine hbody cdv A outer s H E hr ds _ _ hF (start N vs) [] H _ h0 ⟨fun s2 σ2 H2 q h2 z => ?_, fun s2 r σ2 v H2 ⟨d, e, q⟩ h2 z => ?_, fun _ _ _ z => z.elim, fun _ _ _ z => z.elim⟩ ⟨?_, passes_of rfl⟩
    · have hb : Ex H H2 := by obtain ⟨_, h2⟩ := h2; exact h2.base
      exact hn .non .non H2 q ⟨hb, [], o_non, List.nodup_nil, fun a ha => nomatch ha⟩
    · subst e
      obtain ⟨fp2, h2⟩ := h2
      obtain ⟨w2, e1, e2⟩ := h2.top
      cases e1
      exact hn d v H2 q ⟨h2.base, _, e2, h2.nod _, fun a ha => h2.out _ a ha⟩
    · refine (takes_of rfl rfl rfl rfl).imp fun cls d σ2 H2 ⟨y, s2, q, xa, _, fp2, h2⟩ => ?_
      exact hx y cls d H2 q h2.base xa
end
/-- a raising def as callers see it -/
structure DefX (P : Program) (w : World) (K : PySem.W.Frag) (mg : Str → Option Value) (base : Heap) (k : Nat) (x : Str) (ps : List Str) (f : Addr) (fd : FuncData) (dds : List D) (F : FX) : Prop where
  ok : FnOk P w K mg base (L2.CX P w) k f fd ps (spX K F)
  nm : mg x = some (.ref f)
  kp : PySem.W.keepIn K (.ref f) = true
  bd : ∃ (dvs : List V) (dfl : List Value), Binds K fd ps dfl ∧ Vals dvs dfl ∧ ∀ H, RepRs K H dds dvs
theorem spP_X {K : PySem.W.Frag} {F : FX} {vs : List V} {H : Hp} {Q : VK} {E : XK} (h : spP K (fun ds k => F ds k fun _ => False) vs H Q E) : spX K F vs H Q fun _ _ _ => False := by
  obtain ⟨B, ss, hh, ds, k, rfl, hF, q⟩ := h
  have rr : RepRs K H ds vs := by
    obtain ⟨fp, hf⟩ := hh
    have hl := hf.slen
    have key : ∀ (ds : List D) (vs : List V), vs.length = ds.length → (∀ (i : Nat) (d : D), ds[i]? = some d → ∃ v, vs[i]? = some v ∧ RepR K H d v) → RepRs K H ds vs := by
      intro ds
      induction ds with
      | nil =>
        intro vs l _
        have : vs = [] := List.length_eq_zero_iff.mp l
        subst this
        unfold RepRs
        rfl
      | cons d ds ih =>
        intro vs l g
        cases vs with
        | nil => simp at l
        | cons v vs =>
          unfold RepRs
          obtain ⟨u, e, r⟩ := g 0 d rfl
          cases e
          exact ⟨v, vs, rfl, r, ih vs (by simpa using l) fun i d' e => by
            obtain ⟨u, e1, e2⟩ := g (i + 1) d' (by simpa using e)
            exact ⟨u, by simpa using e1, e2⟩⟩
    refine key ds vs (by simpa using hl) fun i d e => ?_
    obtain ⟨v, e1, e2⟩ := hf.var i (.par d) (by rw [List.getElem?_map, e]; rfl)
    refine ⟨v, ?_, e2.mono hf.base⟩
    rw [List.getElem?_map] at e1
    cases z : vs[i]? with
    | none => rw [z] at e1; cases e1
    | some y => rw [z] at e1; have z2 : some y = some v := e1; rw [z2]
  have hb : Ex B H := by obtain ⟨_, hf⟩ := hh; exact hf.base
  refine ⟨ds, k, fun _ => False, rr, hF, fun d v H' hk n => ?_, fun x cls d H' z => z.elim⟩
  exact q d hk v H' (hh.new n)
theorem fnOk_plain {P : Program} {w : World} {K : PySem.W.Frag} {mg : Str → Option Value} {base : Heap} {k : Nat} {f : Addr} {fd : FuncData} {ps : List Str} {F : FX} (h : FnOk P w K mg base (L2.CX P w) k f fd ps (spX K F)) : FnOk P w K mg base CX0 k f fd ps (spP K fun ds k => F ds k fun _ => False) :=
  ⟨fun vs H Q E q => h.len vs H Q (fun _ _ _ => False) (spP_X q), fun A outer s H args us vs Q E hr he hb hv hs => codeAny_mono (h.run A outer s H args us vs Q (fun _ _ _ => False) hr he hb hv (spP_X hs)) fun r s' hq => by
    cases r with
    | error e =>
      obtain ⟨_, _, _, _, _, _, _, _, _, _, _, _, z⟩ := hq
      exact z.elim
    | ok fl => cases fl <;> exact hq⟩
/-- called where it does not raise -/
theorem DefX.plain {P : Program} {w : World} {K : PySem.W.Frag} {mg : Str → Option Value} {base : Heap} {k : Nat} {x : Str} {ps : List Str} {f : Addr} {fd : FuncData} {dds : List D} {F : FX} (C : DefX P w K mg base k x ps f fd dds F) : DefAt P w K mg base CX0 k x ps f fd dds fun ds k => F ds k fun _ => False :=
  ⟨fnOk_plain C.ok, C.nm, C.kp, C.bd⟩
section
variable {X : Cx} {k j : Nat} {f : Addr} {fd : FuncData} {ps : List Str} {x : Str} {e : Expr} {es : List Expr} {p pos : Pos} {B : Hp} {ss ts : List Slot} {Φ : List Slot → Slot → Prop} {R : XD → List Slot → Prop} {dds : List D} {F : FX}
theorem run_fnX {CX : CXT} {E : XK} {sp : L2.Sp} {dvs vs : List V} {ds us : List Value} {pins : List (Addr × Obj)} {σ : L2.St} {H : Hp} {s : Shared} {Q : VK} (F : FnOk X.prog X.w X.K X.mg X.base CX k f fd ps sp) (hr : Room k X.A) (hb : Binds X.K fd ps ds) (hd : Vals dvs ds)
    (hx : ∀ e s', CX X.stack H s E e s' → X.xe e s') (I : Inv X pins σ H s) (r : Vals vs us) (h : sp (vs ++ dvs) H Q E) : wpAny (model X.prog X.w) X.A (call (.ref f) us) (EP X pins σ Q) X.xe s := by
  have r2 : Vals (vs ++ dvs) (us ++ ds) := r.append hd
  have hl : (us ++ ds).length = ps.length := by rw [← r2.length]; exact F.len _ _ _ _ h
  refine wpAny_call (codeAny_mono (F.run X.A X.stack s H ⟨us, []⟩ (us ++ ds) (vs ++ dvs) Q E hr I.env0 (hb s us I.kIn hl) r2 h) fun r s' hq => ?_)
  cases r with
  | error e => exact hx e s' hq
  | ok fl =>
    cases fl with
    | ret u => exact I.after hq
    | next => exact False.elim hq
    | brk => exact False.elim hq
    | cont => exact False.elim hq
/-- f(..), which may raise -/
theorem xCall (C : DefX X.prog X.w X.K X.mg X.base k x ps f fd dds F) (hr : Room j X.A) (hj : k ≤ j) (h : AV X (e :: es) ss ts fun s rs => allK rs fun ds => F (ds ++ dds) (fun d => Φ s (.own d)) fun y => R y s) (hg : Gl X x := by rfl)
    (hdb : (x == ("__debug__" : Str)) = false := by decide) (he : starEach (e :: es) X.env = (false, eval e X.env) :: starEach es X.env := by rfl) (hpl : (backTo pos (starEach es X.env)).any (·.1) = false := by rfl) : EVX X B (.Call (.Name x p) (e :: es) [] pos) ss ts Φ R := by
  intro m fx σ tv H Q hm hh kk xt pins s I
  obtain ⟨dvs, dfl, b1, b2, b3⟩ := C.bd
  refine wpAny_Call_Name_kw (ld_glob I hg C.nm ?_ hdb)
  have ha : wA X (e :: es) σ H fun vs H1 => spX X.K F (vs ++ dvs) H1 Q fun cls d H' => WR X.K B fx σ tv ts R cls d σ H' := by
    refine h m B σ tv H _ hm hh fun s1 rs vs H1 q l1 l2 hh1 => ?_
    obtain ⟨ds, ia, hF⟩ := allK_of q
    have hpop := hh1.popA l1 hm
    refine ⟨ds ++ dds, _, _, (hh1.argsOf l1 ia hm).append (b3 H1), hF, fun d v H2 q n => kk s1 _ v H2 q (hpop.new n), fun y cls d H2 q ex xa => ?_⟩
    exact ⟨y, s1, q, xa, fun _ _ => rfl, ((hpop.ex ex).more (fun k q => hm k q) Low.self).less (fun _ _ q => q) Low.self (hpop.more (fun k q => hm k q) Low.self).vok⟩
  refine PySem.W.callWith_K (h₀ := X.base) I.ok.mod.kin C.kp (thn (ha pos pins s I) fun us s1 ⟨vs, H1, I1, r, q⟩ => ⟨I1.kIn, ?_⟩) he hpl
  exact run_fnX C.ok (hr.mono hj) b1 b2 (fun e' s' c => xt.tk e' s' (XE.of_call I1 (fun _ _ _ h => h) c)) I1 r q
end

/-! ### isinstance of an exception -/
end DL
namespace PySem.W
open PySem PySem.Spec PySem.Calls PyProof.Rows
section
variable {prog : Program} {w : World} {A : Around} {E : Value → Shared → Prop} {s : Shared} {K : Frag} {x D : Addr} {ox : Obj} {od : Option Obj}
theorem dl_findObj {C : Addr} {name : Str} {a g : Value} (hc : (clsIn K C).isSome = true) (ha : findIn K (.ref C) name = some (some a)) (hg : specialIn K a "__get__" = some (some g)) (ht : takesIn K a = some true) : findObj K C od name = some (.bind g a) := by
  obtain ⟨cd, hc⟩ := Option.isSome_iff_exists.mp hc
  unfold findObj
  rw [hc, Option.bind_some, ha, Option.bind_some]
  simp [hg, ht]
theorem dl_kin {Q : Option Value → Shared → Prop} (C : L2.ExcC K D)
    (X : K.In s.heap) (I : InstAt s.heap x ox D od) (h : Q (some (.ref D)) { s with toks := s.toks + 1 }) : wpAny (model prog w) A (getAttr? (.ref x) "__class__") Q E s := by
  have hf : findObj K D od "__class__" = some (.bind (.builtin "getset_descriptor.__get__") (.builtin "object.__class__")) := dl_findObj (by obtain ⟨cd, hc, _⟩ := any_some C.hd; rw [hc]; rfl) C.ha C.hn C.ht
  obtain ⟨hp, g, d, t, os⟩ := s
  have L0 := I.type (M := model prog w)
  have L1 := looks_findIn (M := model prog w) X C.hg
  have L2 := looks_findIn (M := model prog w) X C.hk
  have L3 := looks_find (M := model prog w) X I hf
  have sub : Looks (model prog w) hp (isInstance (.ref x) (.type "BaseException")) true := L0.andThen (looks_subIn X C.hs)
  have hx0 : (false && onTheHeap (Value.builtin "BaseException.__getattribute__")) = false := rfl
  have hx2 : (Value.builtin "BaseException.__getattribute__" == Value.builtin "object.__getattribute__") = false := by decide +kernel
  have hx1 : (onTheHeap (Value.ref D) && Value.builtin "BaseException.__getattribute__" == Value.builtin "object.__getattribute__") = false := by rw [hx2]; rfl
  unfold getAttr? getAttrBy? getAttrBy
  refine wpAny_bind (wpAny_mkText (wpAny_bind (wpAny_attempt (wpAny_holding (wpAny_bind (L0.at (wpAny_bind (L1.at ?_))))))))
  show wpAny _ _ (if (onTheHeap (Value.ref D) && Value.builtin "BaseException.__getattribute__" == Value.builtin "object.__getattribute__") = true then _ else _) _ _ _
  rw [hx1, if_neg Bool.false_ne_true]
  unfold getAttrByItsOwn hookBefore
  refine wpAny_bind ?_
  rw [if_pos (show onTheHeap (Value.ref D) = true from rfl)]
  refine L2.at ?_
  refine wpAny_bind (wpAny_attempt (wpAny_holding ?_))
  unfold callGetattribute
  rw [hx0, if_neg Bool.false_ne_true]
  unfold boundAndCalled
  rw [PySem.F.excAttr_ValueError.ga.bind (.ref x)]
  refine wpAny_bind (wpAny_pure ?_)
  show wpAny _ _ (call (.builtin "BaseException.__getattribute__") [.ref x, .str "__class__" t]) _ _ _
  refine wpAny_call (codeAny_call_builtin PySem.F.excAttr_ValueError.ga.plain PySem.F.entry_bexc_ga ?_)
  refine @check_slot (model prog w) _ _ ⟨hp, g, d, t + 1, os⟩ "BaseException.__getattribute__" "BaseException" "__getattribute__" (.ref x) [.str "__class__" t] [] _ (by decide +kernel) (by decide +kernel) sub (PySem.F.args_bexc_ga (.ref x) (.str "__class__" t)) ?_
  unfold Builtin.«object.__getattribute__»
  refine wpAny_bind (wpAny_of_eq (a := ((Value.ref x : Value), [Value.str "__class__" t])) (by first | rfl | (simp only [slotArgs]; rfl)) ?_)
  refine wpAny_bind (wpAny_pure (wpAny_bind (L0.at (wpAny_bind (L3.at ?_)))))
  show wpAny _ _ (holding [Value.builtin "object.__class__"] (call (.builtin "getset_descriptor.__get__") [.builtin "object.__class__", .ref x, .ref D]) >>= ret) _ _ _
  refine wpAny_bind (wpAny_holding (wpAny_call (class_get (s := ⟨hp, g, d, t + 1, os⟩) (ox := ox) (od := od) X I C.hm ?_)))
  refine wpAny_pure ?_
  show wpAny _ _ (handedOut (.ref D)) _ _ _
  rw [handedOut_of (v := .ref D) rfl]
  first
    | exact wpAny_pure (wpAny_pure h)
    | exact wpAny_pure h
    | exact wpAny_pure (wpAny_bind (wpAny_pure (wpAny_pure h)))
theorem dl_kitx (C : L2.ExcC K D) : KitX K (.ref x) (.ref D) (fun h => ∃ ox od, InstAt h x ox D od) where
  ty := fun _ _ _ ⟨_, _, I⟩ => I.type
  it := fun _ _ X _ => by
    obtain ⟨cdD, hcD, _⟩ := any_some C.hd
    unfold clsIn at hcD
    split at hcD
    · rename_i c' d' cd' sl' ho
      intro A' Q' E' s' k q
      unfold isType loadHead
      exact wpAny_bind (wpAny_loadPart (k _ _ (X _ _ ho)) (wpAny_pure q))
    · cases hcD
  ne := fun h tp dd its n sl X htp => by
    obtain ⟨cdD, hcD, _⟩ := any_some C.hd
    refine Bool.eq_false_iff.mpr fun q => ?_
    have e : D = tp := Value.ref.inj (beq_iff_eq.mp q)
    subst e
    unfold clsIn at hcD
    split at hcD
    · rename_i c' d' cd' sl' ho
      have z := (X _ _ ho).symm.trans htp
      cases z
    · cases hcD
  ca := fun X ⟨_, _, I⟩ k => dl_kin C X I k
end
end PySem.W
namespace DL
open PySem PySem.Spec PyProof.Rows L2
section
variable {X : Cx} {pins : List (Addr × Obj)} {σ : L2.St} {H : Hp} {s : Shared}
theorem exc_inst {a C : Addr} {d : Option Addr} {fs : List (Str × V)} (I : Inv X pins σ H s) (ea : H a = some (ExA C d a)) (xd : xdOk H d fs) : ∃ ox od, PySem.W.InstAt s.heap a ox C od ∧
    ((d = none ∧ fs = [] ∧ od = none) ∨ ∃ dx o mA, d = some dx ∧ od = some o ∧ s.heap.Ns1 dx mA ∧ (∀ f, RelO (fs.lookup f) (mA f)) ∧ ∀ name, PySem.W.lookIn name o = some (mA name)) := by
  have z : ObjOk X.prog X.w H s.heap a (.ext fun h => ∃ (oe : Obj) (vs : Array Value), h.get? a = some oe ∧ Zc (.ref C) d oe ∧ oe.data = .fields vs) := I.hok a _ ea
  obtain ⟨⟨oe, vs, e1, e2, e3⟩, _, _⟩ := z
  rcases xd with ⟨rfl, rfl⟩ | ⟨dx, rfl, hx⟩
  · refine ⟨oe, none, ⟨e1, e2.1, by unfold PySem.W.notCls; rw [e3] <;> rfl, by rw [e2.2]; trivial⟩, .inl ⟨rfl, rfl, rfl⟩⟩
  · obtain ⟨mA, hns, hr⟩ := (show ObjOk X.prog X.w H s.heap dx (.xd fs) from I.hok dx _ hx)
    obtain ⟨od, ho, hl⟩ := lookIn_ns hns
    exact ⟨oe, some od, ⟨e1, e2.1, by unfold PySem.W.notCls; rw [e3] <;> rfl, by rw [e2.2]; exact ho⟩, .inr ⟨dx, od, mA, rfl, rfl, hns, hr, hl⟩⟩
/-- isinstance(x, c), x an exception -/
def rIsX (K : PySem.W.Frag) : List V → Hp → VK → Prop := fun xs H Q => ∃ (a C : Addr) (d : Option Addr) (fs : List (Str × V)) (c : V) (u : Value) (b : Bool), xs = [.ref a, c] ∧ ClsV c u ∧ ExcC K C ∧ H a = some (ExA C d a) ∧ xdOk H d fs ∧ PySem.W.kitOne K (.ref C) u = some b ∧ Q (.bl b) H
theorem call_isX : CallR X (.builtin "isinstance") (rIsX X.K) := by
  intro pins s σ H xs us Q I r h
  obtain ⟨a, C, d, fs, c, u, b, rfl, k, xc, ea, xd, e, q⟩ := h
  obtain ⟨u1, u2, rfl, r1, r2⟩ := vals2 r
  have e2 := k.eq r2
  subst e2
  cases (show u1 = Value.ref a from r1)
  obtain ⟨ox, od, J, _⟩ := exc_inst I ea xd
  exact PySem.W.kia_one (PySem.W.dl_kitx xc) I.kIn ⟨ox, od, J⟩ e (fun z => nomatch z) fun tk => ⟨.bl b, H, I.tok tk, rfl, q⟩
end
section
variable {X : Cx} {fx : List Nat} {ss ts : List Slot} {Φ : List Slot → Slot → Prop} {Θ : List Slot → Bool → Prop} {e a b c l : Expr} {pos p px : Pos} {x n : Str} {Ψ : List Slot → List Slot → List El → Prop} {tg : Expr}
/-- the name of a class of the program -/
theorem ev_cls {C : Addr} (hm : X.mg x = some (.ref C)) (q : Φ ss (.own (.raw (.ref C)))) (hg : Gl X x := by rfl) (hd : (x == ("__debug__" : Str)) = false := by decide) : EV X (.Name x pos) ss ts Φ :=
  ev_glo hg ⟨_, .ref C, hm, rfl, fun H => by unfold RepO; exact ⟨rfl, rfl⟩⟩ q hd
/-- isinstance(e, C): e None or an exception -/
theorem eIsX (D0 : Addr) (hi : X.mg "isinstance" = none) (hm : X.mg x = some (.ref D0)) (h : EV X e ss ts fun s r => d1K (fun d => (d = .non ∧ PySem.W.kitOne X.K (.type "NoneType") (.ref D0) = some false ∧ Φ s (.own (.bl false))) ∨
      ∃ C ns l b, d = .exc C ns l ∧ ExcC X.K C ∧ PySem.W.kitOne X.K (.ref C) (.ref D0) = some b ∧ Φ s (.own (.bl b))) r)
    (hg : Gl X "isinstance" := by rfl) (hgx : Gl X x := by rfl) (hd : (x == ("__debug__" : Str)) = false := by decide)
    (hs : starEach [e, .Name x px] X.env = (false, eval e X.env) :: starEach [.Name x px] X.env := by rfl) (hs2 : starEach [.Name x px] X.env = (false, eval (.Name x px) X.env) :: starEach [] X.env := by rfl) (hpl : (backTo pos (starEach [.Name x px] X.env)).any (·.1) = false := by rfl) : EV X (.Call (.Name "isinstance" p) [e, .Name x px] [] pos) ss ts Φ := by
  refine fun m B σ tv H Q hm' hh kk => ?_
  refine toE (pe_callB (r := fun xs H Q => rIsX X.K xs H Q ∨ rIsi X.K xs H Q) (fun pins s σ H xs us Q I r h => h.elim (call_isX pins s σ H xs us Q I r) (call_isi pins s σ H xs us Q I r)) hg hi (by decide +kernel) (pa_cons pe_w (pa_cons pe_w pa_nil hs2) hs) (he := hs) (hpl := hpl)) ?_
  refine h m B σ tv H _ hm' hh fun s1 r1 v H1 h1 hh1 => ?_
  obtain ⟨d, id, h2⟩ := d1K_of h1
  refine ev_cls (ts := r1 :: ts) hm (Φ := fun s r => s = s1 ∧ r = .own (.raw (.ref D0))) ⟨rfl, rfl⟩ hgx hd m B σ (v :: tv) H1 _ hm'.up hh1 fun s2 r2 u H2 ⟨e1, e2⟩ hh2 => ?_
  subst e1 e2
  have zu := hh2.top Slot.is_own
  rw [rep_raw] at zu
  subst zu
  have zv := hh2.top2 id
  have fin : ∀ b, Φ s2 (.own (.bl b)) → Q (.bl b) H2 := fun b q => kk s2 _ _ H2 q (((hh2.pop hm'.up).pop hm').pushF o_bl)
  rcases h2 with ⟨rfl, h3, q⟩ | ⟨C, ns, l, b, rfl, xc, h3, q⟩
  · rw [rep_non] at zv
    subst zv
    exact .inr ⟨.non, .ref D0, .type "NoneType", .ref D0, false, rfl, .own D0, .base .non, h3, fin _ q⟩
  · unfold RepR at zv
    obtain ⟨a, d, fs, rfl, z1, z2, _, _⟩ := zv
    exact .inl ⟨a, C, d, fs, .ref D0, .ref D0, b, rfl, .own D0, xc, z1, z2, h3, fin _ q⟩
/-- isinstance(e, T), T a built-in class -/
theorem eIsXT (t : String) (hi : X.mg "isinstance" = none) (hm : X.mg x = none) (h : EV X e ss ts fun s r => d1K (fun d => (∃ b, d = .non ∧ kitB "NoneType" t = some b ∧ Φ s (.own (.bl b))) ∨
      ∃ C ns l b, d = .exc C ns l ∧ ExcC X.K C ∧ PySem.W.kitOne X.K (.ref C) (.type t) = some b ∧ Φ s (.own (.bl b))) r)
    (hv : bootBuiltins x = some (.type t) := by decide +kernel) (hg : Gl X "isinstance" := by rfl) (hgx : Gl X x := by rfl) (hn : x ≠ "__name__" := by decide) (hd : (x == ("__debug__" : Str)) = false := by decide)
    (hs : starEach [e, .Name x px] X.env = (false, eval e X.env) :: starEach [.Name x px] X.env := by rfl) (hs2 : starEach [.Name x px] X.env = (false, eval (.Name x px) X.env) :: starEach [] X.env := by rfl) (hpl : (backTo pos (starEach [.Name x px] X.env)).any (·.1) = false := by rfl) : EV X (.Call (.Name "isinstance" p) [e, .Name x px] [] pos) ss ts Φ := by
  refine fun m B σ tv H Q hm' hh kk => ?_
  refine toE (pe_callB (r := fun xs H Q => rIsX X.K xs H Q ∨ rIsi X.K xs H Q) (fun pins s σ H xs us Q I r h => h.elim (call_isX pins s σ H xs us Q I r) (call_isi pins s σ H xs us Q I r)) hg hi (by decide +kernel) (pa_cons pe_w (pa_cons pe_w pa_nil hs2) hs) (he := hs) (hpl := hpl)) ?_
  refine h m B σ tv H _ hm' hh fun s1 r1 v H1 h1 hh1 => ?_
  obtain ⟨d, id, h2⟩ := d1K_of h1
  refine ev_ty (ts := r1 :: ts) (Φ := fun s r => s = s1 ∧ r = .own (.raw (.ty t))) hgx hm hv ⟨rfl, rfl⟩ hn hd m B σ (v :: tv) H1 _ hm'.up hh1 fun s2 r2 u H2 ⟨e1, e2⟩ hh2 => ?_
  subst e1 e2
  have zu := hh2.top Slot.is_own
  rw [rep_raw] at zu
  subst zu
  have zv := hh2.top2 id
  have fin : ∀ b, Φ s2 (.own (.bl b)) → Q (.bl b) H2 := fun b q => kk s2 _ _ H2 q (((hh2.pop hm'.up).pop hm').pushF o_bl)
  rcases h2 with ⟨b, rfl, h3, q⟩ | ⟨C, ns, l, b, rfl, xc, h3, q⟩
  · rw [rep_non] at zv
    subst zv
    exact .inr ⟨.non, .ty t, .type "NoneType", .type t, b, rfl, .ty t, .base .non, kit_ty h3, fin _ q⟩
  · unfold RepR at zv
    obtain ⟨a, d, fs, rfl, z1, z2, _, _⟩ := zv
    exact .inl ⟨a, C, d, fs, .ty t, .type t, b, rfl, .ty t, xc, z1, z2, h3, fin _ q⟩
/-- the value by its name -/
theorem rep_lookup {K : PySem.W.Frag} {H : Hp} {f : Str} {d : D} : ∀ {fs : List (Str × V)} {ns : List Str} {l : List D}, fs.map (·.1) = ns → RepRs K H l (fs.map (·.2)) → (ns.zip l).lookup f = some d → ∃ v, fs.lookup f = some v ∧ RepR K H d v
  | [], _, l, e, r, h => by
    cases e
    simp at h
  | (g, v) :: fs, _, l, e, r, h => by
    cases e
    cases l with
    | nil => simp at h
    | cons d0 l =>
      unfold RepRs at r
      obtain ⟨w, ws, e1, r1, r2⟩ := r
      simp only [List.map_cons, List.cons.injEq] at e1
      obtain ⟨rfl, rfl⟩ := e1
      simp only [List.map_cons, List.zip_cons_cons, List.lookup_cons] at h ⊢
      cases q : (f == g) with
      | true =>
        rw [q] at h
        cases h
        exact ⟨v, rfl, r1⟩
      | false =>
        rw [q] at h
        exact rep_lookup rfl r2 h
theorem xEf {X : Cx} {e : Expr} {n : Str} {σ : L2.St} {H : Hp} {Q : VK} (h : wE X e σ H fun x H1 => ∃ (a C : Addr) (d : Option Addr) (fs : List (Str × V)) (v : V), x = .ref a ∧ XfC X.K C ∧ PySem.W.findIn X.K (.ref C) n = some none ∧ H1 a = some (ExA C d a) ∧ xdOk H1 d fs ∧ fs.lookup n = some v ∧ Q v H1)
    (hb : attributeBase e n X.env (eval e X.env) = eval e X.env := by rfl) : wE X (.Attribute e n pos) σ H Q := by
  intro pins s I
  refine attr_of hb (thn (h pins s I) fun u s1 hh => ?_)
  obtain ⟨x, H1, I1, rx, a, C, d, fs, v, ex, T, hno, ea, xd, l, q⟩ := hh
  subst ex
  obtain rfl : u = Value.ref a := rx
  obtain ⟨ox, od, J, hd⟩ := exc_inst I1 ea xd
  rcases hd with ⟨_, rfl, _⟩ | ⟨dx, o, mA, rfl, rfl, hns, hr, hl⟩
  · cases l
  · obtain ⟨u, hu, ru⟩ := RelO.some_of (v := v) (o := mA n) (by rw [← l]; exact hr n)
    exact HandSPX.exc_get I1.kIn J T.ga T.gg T.exC (PySem.W.findObj_own T.hdC hno rfl (by rw [hl, hu])) (handed_of ru) ⟨v, H1, I1.tok _, ru, q⟩
/-- e.f of an exception -/
theorem eFldX (h : EV X e ss ts fun s r => d1K (fun d => ∃ C ns l d', d = .exc C ns l ∧ XfC X.K C ∧ PySem.W.findIn X.K (.ref C) n = some none ∧ (ns.zip l).lookup n = some d' ∧ d'.flat = true ∧ Φ s (.own d')) r)
    (hb : attributeBase e n X.env (eval e X.env) = eval e X.env := by rfl) : EV X (.Attribute e n pos) ss ts Φ := fun m B σ tv H Q hm hh kk => by
  refine xEf ?_ hb
  refine h m B σ tv H _ hm hh fun s1 r1 v H1 h1 hh1 => ?_
  obtain ⟨d, id, C, ns, l, d', rfl, T, hno, lk, fl, q⟩ := d1K_of h1
  have zv := hh1.top id
  unfold RepR at zv
  obtain ⟨a, dd, fs, rfl, z1, z2, z3, z4⟩ := zv
  obtain ⟨v, l2, rv⟩ := rep_lookup z3 z4 lk
  exact ⟨a, C, dd, fs, v, rfl, T, hno, z1, z2, l2, kk s1 _ v H1 q ((hh1.pop hm).pushF (rv.flatO fl))⟩
/-- e is None -/
def isNon : D → Bool
  | .non => true
  | _ => false
theorem not_non {K : PySem.W.Frag} {H : Hp} {d : D} {v : V} (h : RepR K H d v) (hr : ∀ u, d ≠ .raw u) : decide (v = .non) = isNon d := by
  cases d with
  | raw u => exact absurd rfl (hr u)
  | non => rw [rep_non] at h; subst h; rfl
  | bl b => rw [rep_bl] at h; subst h; rfl
  | int i => rw [rep_int] at h; subst h; rfl
  | str x => rw [rep_str] at h; subst h; rfl
  | tup l => unfold RepR at h; obtain ⟨_, _, rfl, _⟩ := h; rfl
  | lst l => unfold RepR at h; obtain ⟨_, _, rfl, _⟩ := h; rfl
  | fz l => unfold RepR at h; obtain ⟨_, _, rfl, _⟩ := h; rfl
  | ins _ _ l => unfold RepR at h; obtain ⟨_, _, _, rfl, _⟩ := h; rfl
  | exc _ _ l => unfold RepR at h; obtain ⟨_, _, _, rfl, _⟩ := h; rfl
@[reducible] def nonK (k : Bool → Prop) (r : Slot) : Prop := match r.dd with
  | some (.raw _) => False
  | some .non => k true
  | some _ => k false
  | none => False
theorem nonK_of {k : Bool → Prop} {r : Slot} (h : nonK k r) : ∃ d, r.is d ∧ (∀ u, d ≠ .raw u) ∧ k (isNon d) := by
  unfold nonK at h
  cases e : r.dd with
  | none => rw [e] at h; exact h.elim
  | some d =>
    rw [e] at h
    refine ⟨d, Slot.dd_is e, ?_, ?_⟩
    · rintro u rfl
      exact h.elim
    · cases d <;> first | exact h | exact h.elim
theorem tIsN {j : Nat} {cp : Pos} (h : EV X a ss ts fun s r => nonK (fun t => Θ s t) r) : TV X (.Compare a [.Is] [.Constant .none j cp] pos) ss ts Θ :=
  tv_cmp2 op_isN (nobehind _ (by decide) (by decide)) (h.imp fun s1 r1 h1 => ev_non (by
    obtain ⟨d, e1, hr, q⟩ := nonK_of h1
    refine ⟨d, .non, _, e1, Slot.is_own, fun H x y rx ry Q q => ?_, q⟩
    rw [rep_non] at ry
    refine ⟨ry, ?_⟩
    rw [not_non rx hr]
    exact q))
theorem tNotN {j : Nat} {cp : Pos} (h : EV X a ss ts fun s r => nonK (fun t => Θ s (!t)) r) : TV X (.Compare a [.IsNot] [.Constant .none j cp] pos) ss ts Θ :=
  tv_cmp2 op_notN (nobehind _ (by decide) (by decide)) (h.imp fun s1 r1 h1 => ev_non (by
    obtain ⟨d, e1, hr, q⟩ := nonK_of h1
    refine ⟨d, .non, _, e1, Slot.is_own, fun H x y rx ry Q q => ?_, q⟩
    rw [rep_non] at ry
    refine ⟨ry, ?_⟩
    rw [not_non rx hr]
    exact q))
/-! ### list + list, of flat data -/
theorem eCat (h : EV X a ss ts fun s1 r1 => EV X b s1 (r1 :: ts) fun s r2 => d1K (fun d1 => d1K (fun d2 => ∃ l1 l2, d1 = .lst l1 ∧ d2 = .lst l2 ∧ D.flats l1 = true ∧ D.flats l2 = true ∧ l1.length + l2.length ≤ 100000 ∧ Φ s (.own (.lst (l1 ++ l2)))) r2) r1) : EV X (.BinOp a .Add b pos) ss ts Φ := fun m B σ tv H Q hm hh k => by
  refine toE (pe_op op_cat pe_w pe_w) ?_
  refine h m B σ tv H _ hm hh fun s1 r1 x H1 h1 hh1 => ?_
  refine h1 m B σ (x :: tv) H1 _ (hm.up) hh1 fun s2 r2 y H2 hq hh2 => ?_
  obtain ⟨d1, e1, hq⟩ := d1K_of hq
  obtain ⟨d2, e2, l1, l2, rfl, rfl, f1, f2, hl, q⟩ := d1K_of hq
  have z1 := hh2.top2 e1
  have z2 := hh2.top e2
  unfold RepR at z1 z2
  obtain ⟨p1, xs, rfl, g1, g2⟩ := z1
  obtain ⟨p2, ys, rfl, k1, k2⟩ := z2
  refine ⟨p1, p2, xs, ys, rfl, rfl, g1, k1, ?_, fun p hp => ?_⟩
  · rw [g2.length, k2.length, sizeLine_eq]
    omega
  · refine k s2 _ _ _ q (((hh2.pop hm.up).pop hm).fresh (F := [p]) (Ex.new hp) ?_ (by simp) fun a ha => ?_)
    · unfold RepO
      exact ⟨p, _, [], rfl, upd_same, rfl, ((g2.flatO f1).append (k2.flatO f2)).frame (Ex.new hp).tk (fun a ha => nomatch ha)⟩
    · rw [List.mem_singleton.mp ha]
      exact hp
/-! ### zip of two lists of flat data -/
variable {e2 : Expr} {elts : List Expr} {kk : Nat} {tpos : Pos}
theorem wZip (hm : X.mg "zip" = none) (h : EV X e ss ts fun s1 r1 => EV X e2 s1 (r1 :: ts) fun s r2 => d1K (fun d1 => d1K (fun d2 => ∃ ds es, d1 = .lst ds ∧ d2 = .lst es ∧ (∀ d ∈ ds, d.flat = true) ∧ (∀ d ∈ es, d.flat = true) ∧ Ψ s [r2, r1] ((ds.zip es).map fun p => .two (.own p.1) (.own p.2))) r2) r1)
    (hg : Gl X "zip" := by rfl) (hs : starEach [e, e2] X.env = (false, eval e X.env) :: starEach [e2] X.env := by rfl) (hs2 : starEach [e2] X.env = (false, eval e2 X.env) :: starEach [] X.env := by rfl) (hpl : (backTo pos (starEach [e2] X.env)).any (·.1) = false := by rfl) :
    IV X (.Tuple elts kk tpos) (.Call (.Name "zip" p) [e, e2] [] pos) ss ts Ψ := fun m B σ tv H R hm' hh k => by
  refine toI (pi_zip hg hm (pa_cons pe_w (pa_cons pe_w pa_nil hs2) hs) hs hpl) ?_
  refine h m B σ tv H _ hm' hh fun s1 r1 x H1 h1 hh1 => ?_
  refine h1 m B σ (x :: tv) H1 _ hm'.up hh1 fun s r2 y H2 hq hh2 => ?_
  obtain ⟨d1, i1, hq⟩ := d1K_of hq
  obtain ⟨d2, i2, ds, es, rfl, rfl, f1, f2, q⟩ := d1K_of hq
  have za := hh2.top2 i1
  have zb := hh2.top i2
  unfold RepR at za zb
  obtain ⟨a, vs, rfl, a1, a2⟩ := za
  obtain ⟨b, ws, rfl, b1, b2⟩ := zb
  refine ⟨a, b, vs, ws, rfl, SqL.of a1, SqL.of b1, k s [r2, r1] [.ref b, .ref a] _ _ H2 q rfl hh2 ?_⟩
  intro m' B' H' σ' ss' ev es' tv' ts' h' hlen hle hmm
  obtain ⟨fp, hf⟩ := h'
  have mb : m' (ts.length + 1) := hmm _ (by omega) (by simp)
  have ma : m' ts.length := hmm _ (Nat.le_refl _) (by simp)
  have w1 := HeldF.at (v := .ref b) (r := r2) (ts := r1 :: ts') (tv := .ref a :: tv') hf hlen
  have hf2 : HeldF X.K m' B' H' fp σ' ss' ((ev ++ [.ref b]) ++ (.ref a :: tv')) ((es' ++ [r2]) ++ (r1 :: ts')) := by
    rw [List.append_assoc, List.append_assoc]
    exact hf
  have w2 := HeldF.at hf2 (by simp [hlen])
  rw [List.length_cons, hle] at w1
  rw [hle] at w2
  obtain ⟨b', ws', eb, c1, c2, c3⟩ := w1.item hf.base i2 mb
  obtain ⟨a', vs', ea, e1, e2', e3⟩ := w2.item hf.base i1 ma
  cases eb
  cases ea
  have len : ((ds.zip es).map fun p => El.two (.own p.1) (.own p.2)).length = min ds.length es.length := by
    rw [List.length_map, List.length_zip]
  refine ⟨fun i el hi => ?_, fun i hi => ⟨vs', ws', SqL.of e1, SqL.of c1, by omega⟩⟩
  obtain ⟨pr, hpr, rfl⟩ := els_get hi
  obtain ⟨hd, he⟩ := List.getElem?_zip_eq_some.mp hpr
  obtain ⟨u, u1, u2, _⟩ := e3 i pr.1 hd
  obtain ⟨v, v1, v2, _⟩ := c3 i pr.2 he
  refine ⟨⟨vs', ws', u, v, SqL.of e1, SqL.of c1, u1, v1⟩, fun x H3 y => ?_⟩
  obtain ⟨T, x1, x2, ex, hT, eH, y1, y2⟩ := y
  have ex1 : x1 = u := by
    have z := y1 vs' (SqL.of e1)
    rw [u1] at z
    exact (Option.some.inj z).symm
  have ex2 : x2 = v := by
    have z := y2 ws' (SqL.of c1)
    rw [v1] at z
    exact (Option.some.inj z).symm
  subst ex1 ex2 ex eH
  have exx := Ex.new (o := .tup [x1, x2]) hT
  have g1 := (hf.ex exx).pushF ((u2.mono exx).flatO (f1 _ (List.mem_of_getElem? hd)))
  exact ⟨T, x1, x2, rfl, .inl (.inl upd_same), _, g1.pushF ((v2.mono exx).flatO (f2 _ (List.mem_of_getElem? he)))⟩
end
end DL
/-! The data layer, part S1: texts. -/
namespace DL
open PySem PySem.Spec PyProof.Rows L2

/-! ### int(t, 2) -/
namespace Two
open PySem.NumText PySem.Calls
def Bin (c : Nat) : Prop := c = 48 ∨ c = 49
theorem Bin.hex {c : Nat} (h : Bin c) : Hx.IsHex c := by
  rcases h with rfl | rfl
  · exact .inl ⟨by decide, by decide⟩
  · exact .inl ⟨by decide, by decide⟩
def num (l : List Nat) : Nat := l.foldl (fun a c => a * 2 + (c - 48)) 0
theorem step_two {ds : Array Nat} {b : Bool} {c : Nat} (h : Bin c) : PySem.NumText.step 2 (ds, b) c = some (ds.push (c - 48), true) := by
  rcases h with rfl | rfl <;> rfl
theorem fold_two : ∀ (cs : List Nat) (ds : Array Nat), (∀ c ∈ cs, Bin c) → cs.foldlM (PySem.NumText.step 2) (ds, true) = some (cs.foldl (fun acc c => acc.push (c - 48)) ds, true)
  | [], _, _ => rfl
  | c :: cs, ds, h => by
    rw [List.foldlM_cons, step_two (h c List.mem_cons_self)]
    exact fold_two cs (ds.push (c - 48)) fun d hd => h d (List.mem_cons_of_mem _ hd)
theorem digits_two {cs : List Nat} (h : ∀ c ∈ cs, Bin c) (ne : cs ≠ []) : digits? 2 cs = some (cs.foldl (fun acc c => acc.push (c - 48)) #[]) := by
  cases cs with
  | nil => exact absurd rfl ne
  | cons c cs =>
    unfold digits?
    rw [List.foldlM_cons, step_two (h c List.mem_cons_self)]
    show (cs.foldlM (PySem.NumText.step 2) ((#[] : Array Nat).push (c - 48), true)).bind _ = _
    rw [fold_two cs _ fun d hd => h d (List.mem_cons_of_mem _ hd)]
    rfl
theorem push_two : ∀ (cs : List Nat) (ds : Array Nat), (cs.foldl (fun acc c => acc.push (c - 48)) ds).foldl (fun acc d => acc * 2 + d) 0 = cs.foldl (fun a c => a * 2 + (c - 48)) (ds.foldl (fun acc d => acc * 2 + d) 0)
  | [], _ => rfl
  | c :: cs, ds => by
    rw [List.foldl_cons, push_two cs (ds.push (c - 48)), List.foldl_cons]
    congr 1
    simp
theorem based_two {cs : List Nat} (h : ∀ c ∈ cs, Bin c) : based 2 cs = (2, false, cs) := by
  match cs, h with
  | [], _ => rfl
  | [a], h =>
    have ha := h a List.mem_cons_self
    rcases ha with rfl | rfl <;> rfl
  | a :: c :: r, h =>
    have hc := h c (List.mem_cons_of_mem _ List.mem_cons_self)
    have ha := h a List.mem_cons_self
    rcases ha with rfl | rfl <;> rcases hc with rfl | rfl <;> rfl
theorem read_two {cs : List Nat} (h : ∀ c ∈ cs, Bin c) (ne : cs ≠ []) : (int_private% "readNumeral") 0 2 cs = (int_private% "Numeral.value") ((num cs : Nat) : Int) := by
  have hh : ∀ c ∈ cs, Hx.IsHex c := fun c hc => (h c hc).hex
  have hr : ∀ c ∈ cs.reverse, Hx.IsHex c := fun c hc => hh c (List.mem_reverse.mp hc)
  refine (readNumeral_eq 0 2 cs).trans ?_
  rw [Hx.dropB hh, Hx.signH hh]
  show judge 0 false (based 2 cs).1 (based 2 cs).2.1 (digits? (based 2 cs).1 (((based 2 cs).2.2.reverse.dropWhile blank).reverse)) = _
  rw [based_two h]
  show judge 0 false 2 false (digits? 2 ((cs.reverse.dropWhile blank).reverse)) = _
  rw [Hx.dropB hr, List.reverse_reverse, digits_two h ne]
  show (int_private% "Numeral.value") (((cs.foldl (fun acc c => acc.push (c - 48)) (#[] : Array Nat)).foldl (fun acc d => acc * 2 + d) 0 : Nat) : Int) = _
  rw [push_two]
  simp [num]
set_option maxHeartbeats 4000000 in
theorem gives_two {x : PySem.Str} {u t : Tok} (hl : x.length ≤ 640) (h : ∀ c ∈ x.cps.toList, Bin c) (ne : x.cps.toList ≠ []) :
    Gives (Builtin.«int.__new__» ⟨[.type "int", .str x u, .int 2 t], []⟩) (.int ((num x.cps.toList : Nat) : Int)) :=
  .of_wp fun M A E s Q hQ => by
    obtain ⟨hp, g, d, tk, os⟩ := s
    have f1 := F.conv_sub_int
    have f2 := F.madeHere_int
    have f6 : typeOf (.str x u) = pure (.type "str") := rfl
    obtain ⟨e1, e2⟩ := Hx.seen_hex (x := x) fun c hc => (h c hc).hex
    have hk : Hx.Hid ((numSeenOf x).length ≤ 640 ∧ (int_private% "readNumeral") 0 2 (numSeenOf x) = (int_private% "Numeral.value") ((num x.cps.toList : Nat) : Int) ∧ ((numSeenOf x).length == (numTextOf x).length) = true) :=
      ⟨by rw [e2, Array.length_toList]; exact hl, by rw [e2]; exact read_two h ne, by rw [e1, e2]; exact beq_self_eq_true _⟩
    clear e1 e2 hl ne h
    repeat (any_goals (first
      | assumption
      | ((with_reducible show wpAny _ _ ((int_private% "intFromText") _ _ _) _ _ _); refine Hx.wp_textB hk.out.1 hk.out.2.1 hk.out.2.2 ?_)
      | wp_step))
    all_goals first | exact ⟨_, rfl, hQ⟩ | skip
theorem call_two {X : Cx} : CallR X (.type "int") (fun xs H Q => ∃ x : Str, xs = [.str x, .int 2] ∧ x.cps.toList ≠ [] ∧ x.length ≤ 640 ∧ (∀ c ∈ x.cps.toList, Bin c) ∧ Q (.int ((num x.cps.toList : Nat) : Int)) H) := by
  intro pins s σ H xs us Q I r h
  obtain ⟨x, rfl, hne, hl, hx, q⟩ := h
  obtain ⟨u, w', rfl, r1, r2⟩ := vals2 r
  obtain ⟨t1, rfl⟩ := r1
  obtain ⟨t2, rfl⟩ := r2
  exact callType_new F.called_int F.newNe_int (Hx.typeCall_int_2 _ _) (Hx.newCall_int_2 _ _) (fun obj => F.initArgs_range_2 obj _ _) F.entry_int_new (gives_two hl hx hne).meets (show (Made.int ((num x.cps.toList : Nat) : Int)).post _ s from ⟨rfl, ⟨.int ((num x.cps.toList : Nat) : Int), H, I.tok _, ⟨_, rfl⟩, q⟩⟩)
end Two
section
variable {X : Cx} {fx : List Nat} {ss ts : List Slot} {Φ : List Slot → Slot → Prop} {Θ : List Slot → Bool → Prop} {e a b c l o : Expr} {pos p px p2 apos : Pos} {x n : Str}
@[reducible] def s1K (k : Str → Prop) : Slot → Prop
  | .own (.str x) => k x
  | _ => False
theorem s1K_of {k : Str → Prop} {r : Slot} (h : s1K k r) : ∃ x, r = .own (.str x) ∧ k x := by
  unfold s1K at h
  split at h
  · exact ⟨_, rfl, h⟩
  · exact h.elim
theorem eInt2 (hm : X.mg "int" = none) (h : EV X a ss ts fun s1 r1 => EV X b s1 (r1 :: ts) fun s r => s1K (fun x => r = .own (.int 2) ∧ (x.cps.toList ≠ [] ∧ x.length ≤ 640 ∧ ∀ c ∈ x.cps.toList, Two.Bin c) ∧ Φ s (.own (.int ((Two.num x.cps.toList : Nat) : Int)))) r1) (hg : Gl X "int" := by rfl)
    (he : starEach [a, b] X.env = (false, eval a X.env) :: starEach [b] X.env := by rfl) (he2 : starEach [b] X.env = (false, eval b X.env) :: starEach [] X.env := by rfl) (hpl : (backTo pos (starEach [b] X.env)).any (·.1) = false := by rfl) : EV X (.Call (.Name "int" p) [a, b] [] pos) ss ts Φ :=
  ev_callTy Two.call_two hg hm (by decide +kernel) (av_cons (h.imp fun s1 r1 h1 => av_cons (h1.imp fun s r2 h2 => by
    obtain ⟨x, rfl, rfl, hc, q⟩ := s1K_of h2
    refine av_nil ⟨[.str x, .int 2], fun d => d = .int ((Two.num x.cps.toList : Nat) : Int), ⟨Slot.is_own, Slot.is_own, trivial⟩, fun H vs Q rr k => ?_, fun d hd => by rw [hd]; exact q⟩
    obtain ⟨v, w, rfl, hv, hw⟩ := reps2 rr
    rw [rep_str] at hv
    rw [rep_int] at hw
    exact ⟨x, by rw [hv, hw], hc.1, hc.2.1, hc.2.2, k _ _ H rfl (.flat o_int)⟩) he2) he) (he := he) (hpl := hpl)
/-- a method of texts with one text as argument -/
theorem eM1 {id : String} {name : Str} {C : Str → Str → Prop} {P : Str → Str → D → Prop} {r : V → List V → Hp → VK → Prop} (slot : PySem.Slot "str" name id) (hty : typeOf (.builtin id) = pure (.type "method_descriptor")) (hm : MtR X id r)
    (hr : ∀ (x y : Str) (H : Hp) (Q : VK), C x y → (∀ d w H', P x y d → New X.K H H' w d → Q w H') → r (.str x) [.str y] H Q)
    (h : EV X o ss ts fun s0 r0 => s1K (fun x => EV X e s0 (r0 :: ts) fun s r => s1K (fun y => C x y ∧ ∀ d, P x y d → Φ s (.own d)) r) r0)
    (hbase : attributeBase o name X.env (eval o X.env) = eval o X.env := by rfl)
    (hfew : ((backTo pos (starEach [e] X.env)).all (fun x => !x.1) && (backToKw pos (keywordEach [] X.env)).all (fun x => x.1.isSome)
      && decide ([e].length + ([] : List Keyword).length + (if ([] : List Keyword).isEmpty then 0 else 1) < 30)) = true := by rfl)
    (hline : (apos.endLine == pos.line) = true := by rfl) (hs : starEach [e] X.env = (false, eval e X.env) :: starEach [] X.env := by rfl) (hplain : (backTo pos (starEach [] X.env)).any (·.1) = false := by rfl) :
    EV X (.Call (.Attribute o name apos) [e] [] pos) ss ts Φ := ev_bm (T := "str") PySem.F.plainAttrs_str slot hty hm (h.imp fun s0 r0 h1 => by
    obtain ⟨x, rfl, h2⟩ := s1K_of h1
    exact ⟨.str x, Slot.is_own, ty_str, av_cons (h2.imp fun s r h3 => by
      obtain ⟨y, rfl, hc, q⟩ := s1K_of h3
      exact av_nil ⟨[.str y], P x y, ⟨Slot.is_own, trivial⟩, fun H v vs Q r1 r2 k => by
        obtain ⟨w, rfl, hw⟩ := reps1 r2
        rw [rep_str] at r1 hw
        subst r1 hw
        exact hr x y H Q hc k, q⟩) hs⟩) hbase hfew hline hs hplain
/-- text.strip(signs) -/
theorem eStripC (h : EV X o ss ts fun s0 r0 => s1K (fun x => EV X e s0 (r0 :: ts) fun s r => s1K (fun y => x.length ≤ 100000 ∧ Φ s (.own (.str (Txt.stripChars x y)))) r) r0)
    (hbase : attributeBase o "strip" X.env (eval o X.env) = eval o X.env := by rfl)
    (hfew : ((backTo pos (starEach [e] X.env)).all (fun x => !x.1) && (backToKw pos (keywordEach [] X.env)).all (fun x => x.1.isSome)
      && decide ([e].length + ([] : List Keyword).length + (if ([] : List Keyword).isEmpty then 0 else 1) < 30)) = true := by rfl)
    (hline : (apos.endLine == pos.line) = true := by rfl) (hs : starEach [e] X.env = (false, eval e X.env) :: starEach [] X.env := by rfl) (hplain : (backTo pos (starEach [] X.env)).any (·.1) = false := by rfl) :
    EV X (.Call (.Attribute o "strip" apos) [e] [] pos) ss ts Φ :=
  eM1 (C := fun x _ => x.length ≤ 100000) (P := fun x y d => d = .str (Txt.stripChars x y)) PySem.F.slot_str_strip PySem.F.type_str_strip mt_stripChars
    (fun x y H Q hc k => ⟨x, y, rfl, rfl, by rw [sizeLine_eq]; omega, k _ _ H rfl (.flat o_str)⟩)
    (h.imp fun s0 r0 h1 => by
      obtain ⟨x, rfl, h2⟩ := s1K_of h1
      exact h2.imp fun s r h3 => by
        obtain ⟨y, rfl, hc, q⟩ := s1K_of h3
        exact ⟨hc, fun d hd => by rw [hd]; exact q⟩) hbase hfew hline hs hplain
/-- text.startswith(text) -/
theorem eStarts (h : EV X o ss ts fun s0 r0 => s1K (fun x => EV X e s0 (r0 :: ts) fun s r => s1K (fun y => Φ s (.own (.bl (Txt.startswith x y)))) r) r0)
    (hbase : attributeBase o "startswith" X.env (eval o X.env) = eval o X.env := by rfl)
    (hfew : ((backTo pos (starEach [e] X.env)).all (fun x => !x.1) && (backToKw pos (keywordEach [] X.env)).all (fun x => x.1.isSome)
      && decide ([e].length + ([] : List Keyword).length + (if ([] : List Keyword).isEmpty then 0 else 1) < 30)) = true := by rfl)
    (hline : (apos.endLine == pos.line) = true := by rfl) (hs : starEach [e] X.env = (false, eval e X.env) :: starEach [] X.env := by rfl) (hplain : (backTo pos (starEach [] X.env)).any (·.1) = false := by rfl) :
    EV X (.Call (.Attribute o "startswith" apos) [e] [] pos) ss ts Φ :=
  eM1 (C := fun _ _ => True) (P := fun x y d => d = .bl (Txt.startswith x y)) PySem.F.slot_str_startswith PySem.F.type_str_startswith mt_startswith
    (fun x y H Q hc k => ⟨x, y, rfl, rfl, k _ _ H rfl (.flat o_bl)⟩)
    (h.imp fun s0 r0 h1 => by
      obtain ⟨x, rfl, h2⟩ := s1K_of h1
      exact h2.imp fun s r h3 => by
        obtain ⟨y, rfl, q⟩ := s1K_of h3
        exact ⟨trivial, fun d hd => by rw [hd]; exact q⟩) hbase hfew hline hs hplain
/-- text.partition(text) -/
theorem ePart (h : EV X o ss ts fun s0 r0 => s1K (fun x => EV X e s0 (r0 :: ts) fun s r => s1K (fun y => ((y.length == 0) = false ∧ x.length ≤ 1000000) ∧ Φ s (.own (.tup [.str (Txt.partition x y).1, .str (Txt.partition x y).2.1, .str (Txt.partition x y).2.2]))) r) r0)
    (hbase : attributeBase o "partition" X.env (eval o X.env) = eval o X.env := by rfl)
    (hfew : ((backTo pos (starEach [e] X.env)).all (fun x => !x.1) && (backToKw pos (keywordEach [] X.env)).all (fun x => x.1.isSome)
      && decide ([e].length + ([] : List Keyword).length + (if ([] : List Keyword).isEmpty then 0 else 1) < 30)) = true := by rfl)
    (hline : (apos.endLine == pos.line) = true := by rfl) (hs : starEach [e] X.env = (false, eval e X.env) :: starEach [] X.env := by rfl) (hplain : (backTo pos (starEach [] X.env)).any (·.1) = false := by rfl) :
    EV X (.Call (.Attribute o "partition" apos) [e] [] pos) ss ts Φ :=
  eM1 (C := fun x y => (y.length == 0) = false ∧ x.length ≤ 1000000) (P := fun x y d => d = .tup [.str (Txt.partition x y).1, .str (Txt.partition x y).2.1, .str (Txt.partition x y).2.2]) PySem.F.slot_str_partition PySem.F.type_str_partition mt_partition
    (fun x y H Q hc k => ⟨x, y, rfl, rfl, hc.1, by rw [sizeLine_eq]; exact Nat.le_trans hc.2 (by decide), fun p hp => k _ _ _ rfl (.tup hp fun H => reps_ofStrs [_, _, _])⟩)
    (h.imp fun s0 r0 h1 => by
      obtain ⟨x, rfl, h2⟩ := s1K_of h1
      exact h2.imp fun s r h3 => by
        obtain ⟨y, rfl, hc, q⟩ := s1K_of h3
        exact ⟨hc, fun d hd => by rw [hd]; exact q⟩) hbase hfew hline hs hplain
/-- text.split(text) -/
theorem eSplit (h : EV X o ss ts fun s0 r0 => s1K (fun x => EV X e s0 (r0 :: ts) fun s r => s1K (fun y => ((y.length == 0) = false ∧ x.length ≤ 1000000) ∧ Φ s (.own (.lst ((Txt.split x y).map D.str)))) r) r0)
    (hbase : attributeBase o "split" X.env (eval o X.env) = eval o X.env := by rfl)
    (hfew : ((backTo pos (starEach [e] X.env)).all (fun x => !x.1) && (backToKw pos (keywordEach [] X.env)).all (fun x => x.1.isSome)
      && decide ([e].length + ([] : List Keyword).length + (if ([] : List Keyword).isEmpty then 0 else 1) < 30)) = true := by rfl)
    (hline : (apos.endLine == pos.line) = true := by rfl) (hs : starEach [e] X.env = (false, eval e X.env) :: starEach [] X.env := by rfl) (hplain : (backTo pos (starEach [] X.env)).any (·.1) = false := by rfl) :
    EV X (.Call (.Attribute o "split" apos) [e] [] pos) ss ts Φ :=
  eM1 (C := fun x y => (y.length == 0) = false ∧ x.length ≤ 1000000) (P := fun x y d => d = .lst ((Txt.split x y).map D.str)) PySem.F.slot_str_split PySem.F.type_str_split mt_split
    (fun x y H Q hc k => ⟨x, y, rfl, rfl, hc.1, by rw [sizeLine_eq]; exact Nat.le_trans (Nat.add_le_add_right hc.2 2) (by decide), fun p hp => k _ _ _ rfl (.lst hp fun H => reps_ofStrs _)⟩)
    (h.imp fun s0 r0 h1 => by
      obtain ⟨x, rfl, h2⟩ := s1K_of h1
      exact h2.imp fun s r h3 => by
        obtain ⟨y, rfl, hc, q⟩ := s1K_of h3
        exact ⟨hc, fun d hd => by rw [hd]; exact q⟩) hbase hfew hline hs hplain
/-- text[i] -/
theorem eIxS (h : EV X a ss ts fun s1 r1 => EV X b s1 (r1 :: ts) fun s r2 => s1K (fun z => i1K (fun i => ∃ c, (z.length ≤ 1000000 ∧ atI z.cps.toList i = some c) ∧ Φ s (.own (.str ⟨#[c]⟩))) r2) r1) (hs : PlainIx b := by intro _ _; rfl) : EV X (.Subscript a b pos) ss ts Φ := fun m B σ tv H Q hm hh k => by
  refine toE (pe_ix ix_str pe_w pe_w hs) ?_
  refine h m B σ tv H _ hm hh fun s1 r1 x H1 h1 hh1 => ?_
  refine h1 m B σ (x :: tv) H1 _ hm.up hh1 fun s r2 y H2 hq hh2 => ?_
  obtain ⟨z, rfl, hq⟩ := s1K_of hq
  obtain ⟨i, rfl, c, ⟨hl, hc⟩, q⟩ := i1K_of hq
  have z1 := hh2.top2 Slot.is_own
  have z2 := hh2.top Slot.is_own
  rw [rep_str] at z1
  rw [rep_int] at z2
  exact ⟨z, i, c, z1, z2, by rw [sizeLine_eq]; exact Nat.le_trans hl (by decide), hc, k s _ _ H2 q (((hh2.pop hm.up).pop hm).pushF o_str)⟩
/-- text[:b], text[a:], text[a:b] -/
theorem eSlTo {z : Expr} (h : EV X z ss ts fun s1 r1 => EV X b s1 (r1 :: ts) fun s r2 => s1K (fun z => i1K (fun i => z.length ≤ 1000000 ∧ Φ s (.own (.str (cutS z none (some i))))) r2) r1) : EV X (.Subscript z (.Slice none (some b) none p2) pos) ss ts Φ := fun m B σ tv H Q hm hh k => by
  refine toE (pe_slice sl_str pe_w po_none (po_some pe_w)) ?_
  refine h m B σ tv H _ hm hh fun s1 r1 x H1 h1 hh1 => ?_
  refine h1 m B σ (x :: tv) H1 _ hm.up hh1 fun s r2 y H2 hq hh2 => ?_
  obtain ⟨z, rfl, hq⟩ := s1K_of hq
  obtain ⟨i, rfl, hl, q⟩ := i1K_of hq
  have z1 := hh2.top2 Slot.is_own
  have z2 := hh2.top Slot.is_own
  rw [rep_str] at z1
  rw [rep_int] at z2
  exact ⟨i, z2, z, z1, by rw [sizeLine_eq]; exact Nat.le_trans hl (by decide), k s _ _ H2 q (((hh2.pop hm.up).pop hm).pushF o_str)⟩
theorem eSlFrom {z : Expr} (h : EV X z ss ts fun s1 r1 => EV X b s1 (r1 :: ts) fun s r2 => s1K (fun z => i1K (fun i => z.length ≤ 1000000 ∧ Φ s (.own (.str (cutS z (some i) none)))) r2) r1) : EV X (.Subscript z (.Slice (some b) none none p2) pos) ss ts Φ := fun m B σ tv H Q hm hh k => by
  refine toE (pe_slice sl_str pe_w (po_some pe_w) po_none) ?_
  refine h m B σ tv H _ hm hh fun s1 r1 x H1 h1 hh1 => ?_
  refine h1 m B σ (x :: tv) H1 _ hm.up hh1 fun s r2 y H2 hq hh2 => ?_
  obtain ⟨z, rfl, hq⟩ := s1K_of hq
  obtain ⟨i, rfl, hl, q⟩ := i1K_of hq
  have z1 := hh2.top2 Slot.is_own
  have z2 := hh2.top Slot.is_own
  rw [rep_str] at z1
  rw [rep_int] at z2
  exact ⟨i, z2, z, z1, by rw [sizeLine_eq]; exact Nat.le_trans hl (by decide), k s _ _ H2 q (((hh2.pop hm.up).pop hm).pushF o_str)⟩
/-- sign in text -/
theorem tInC (h : EV X a ss ts fun s1 r1 => EV X b s1 (r1 :: ts) fun s r2 => s1K (fun y => s1K (fun z => ∃ c, y = ⟨#[c]⟩ ∧ Θ s (decide (c ∈ z.cps.toList))) r2) r1) (hb : behindInMarks .In b = false := by rfl) : TV X (.Compare a [.In] [b] pos) ss ts Θ :=
  tv_cmp2 op_in_sign hb (h.imp fun s1 r1 h1 => h1.imp fun s r2 h2 => by
    obtain ⟨y, rfl, h3⟩ := s1K_of h2
    obtain ⟨z, rfl, c, rfl, q⟩ := s1K_of h3
    refine ⟨_, _, _, Slot.is_own, Slot.is_own, fun H u w rx ry Q q => ?_, q⟩
    rw [rep_str] at rx ry
    exact ⟨c, z, rx, ry, q⟩)
theorem tNotInC (h : EV X a ss ts fun s1 r1 => EV X b s1 (r1 :: ts) fun s r2 => s1K (fun y => s1K (fun z => ∃ c, y = ⟨#[c]⟩ ∧ Θ s (!decide (c ∈ z.cps.toList))) r2) r1) (hb : behindInMarks .NotIn b = false := by rfl) : TV X (.Compare a [.NotIn] [b] pos) ss ts Θ :=
  tv_cmp2 op_notIn_sign hb (h.imp fun s1 r1 h1 => h1.imp fun s r2 h2 => by
    obtain ⟨y, rfl, h3⟩ := s1K_of h2
    obtain ⟨z, rfl, c, rfl, q⟩ := s1K_of h3
    refine ⟨_, _, _, Slot.is_own, Slot.is_own, fun H u w rx ry Q q => ?_, q⟩
    rw [rep_str] at rx ry
    exact ⟨c, z, rx, ry, q⟩)
@[reducible] def lstK (k : List D → Prop) : Slot → Prop
  | .own (.lst l) => k l
  | .par (.lst l) => k l
  | .view _ (.lst l) => k l
  | _ => False
theorem lstK_of {k : List D → Prop} {r : Slot} (h : lstK k r) : ∃ l, r.is (.lst l) ∧ k l := by
  unfold lstK at h
  split at h
  · exact ⟨_, Slot.is_own, h⟩
  · exact ⟨_, Slot.is_par, h⟩
  · exact ⟨_, Slot.is_view, h⟩
  · exact h.elim
theorem ty_lst {K : PySem.W.Frag} {l : List D} : ∀ H v, RepR K H (.lst l) v → tyV K "list" v H := fun H v h => by
  unfold RepR at h
  obtain ⟨a, vs, rfl, z, _⟩ := h
  exact .inl ⟨rfl, _, SqL.of z⟩
theorem reps_strs' {K : PySem.W.Frag} {H : Hp} : ∀ {l : List Str} {vs : List V}, RepRs K H (l.map D.str) vs → vs = l.map V.str
  | [], vs, h => by unfold RepRs at h; exact h
  | x :: l, vs, h => by
    rw [List.map_cons] at h
    unfold RepRs at h
    obtain ⟨w, ws, rfl, h1, h2⟩ := h
    rw [rep_str] at h1
    rw [h1, reps_strs' h2]
    rfl
/-- texts.index(text) -/
theorem eIndexL (h : EV X o ss ts fun s0 r0 => lstK (fun ds => EV X e s0 (r0 :: ts) fun s r => s1K (fun y => ∃ (l : List Str) (j : Nat), (ds = l.map D.str ∧ l[j]? = some y ∧ ∀ m, m < j → l[m]? ≠ some y) ∧ Φ s (.own (.int (j : Nat)))) r) r0)
    (hbase : attributeBase o "index" X.env (eval o X.env) = eval o X.env := by rfl)
    (hfew : ((backTo pos (starEach [e] X.env)).all (fun x => !x.1) && (backToKw pos (keywordEach [] X.env)).all (fun x => x.1.isSome)
      && decide ([e].length + ([] : List Keyword).length + (if ([] : List Keyword).isEmpty then 0 else 1) < 30)) = true := by rfl)
    (hline : (apos.endLine == pos.line) = true := by rfl) (hs : starEach [e] X.env = (false, eval e X.env) :: starEach [] X.env := by rfl) (hplain : (backTo pos (starEach [] X.env)).any (·.1) = false := by rfl) :
    EV X (.Call (.Attribute o "index" apos) [e] [] pos) ss ts Φ := ev_bm (T := "list") PySem.F.plainAttrs_list PySem.F.slot_list_index PySem.F.type_list_index mt_index (h.imp fun s0 r0 h1 => by
    obtain ⟨ds, i0, h2⟩ := lstK_of h1
    exact ⟨.lst ds, i0, ty_lst, av_cons (h2.imp fun s r h3 => by
      obtain ⟨y, rfl, l, j, ⟨rfl, e1, e2⟩, q⟩ := s1K_of h3
      refine av_nil ⟨[.str y], fun d => d = .int (j : Nat), ⟨Slot.is_own, trivial⟩, fun H v vs Q r1 r2 k => ?_, fun d hd => by rw [hd]; exact q⟩
      obtain ⟨w, rfl, hw⟩ := reps1 r2
      rw [rep_str] at hw
      subst hw
      unfold RepR at r1
      obtain ⟨a, us, rfl, z1, z2⟩ := r1
      have eu := reps_strs' z2
      subst eu
      refine ⟨a, l.map V.str, .str y, j, .str y, rfl, rfl, SqL.of z1, rfl, ?_, by rw [List.getElem?_map, e1]; rfl, ?_, ?_, k _ _ H rfl (.flat o_int)⟩
      · rw [List.all_map, List.all_eq_true]
        exact fun _ _ => rfl
      · simp [eqV]
      · intro m z' hm hz
        rw [List.getElem?_map] at hz
        obtain ⟨u, e3, rfl⟩ := Option.map_eq_some_iff.mp hz
        have ne : u ≠ y := fun z => e2 m hm (by rw [e3, z])
        simp [eqV, ne]) hs⟩) hbase hfew hline hs hplain
end
end DL
/-! The data layer, part X4: the program's exception classes, as the head tells them. -/
namespace DL
open PySem PySem.Spec PyProof.Rows L2
theorem D.flats_cons {d : D} {l : List D} : D.flats (d :: l) = (d.flat && D.flats l) := by rw [D.flats]
theorem D.flats_append {a b : List D} : D.flats (a ++ b) = (D.flats a && D.flats b) := by
  induction a with
  | nil =>
    have e : D.flats [] = true := by unfold D.flats; rfl
    rw [List.nil_append, e, Bool.true_and]
  | cons d a ih => rw [List.cons_append, D.flats_cons, D.flats_cons, ih, Bool.and_assoc]
theorem D.flats_mem : ∀ {l : List D}, D.flats l = true → ∀ d ∈ l, d.flat = true
  | [], _, d, h => nomatch h
  | e :: l, h, d, m => by
    unfold D.flats at h
    rw [Bool.and_eq_true] at h
    rcases List.mem_cons.mp m with rfl | m
    · exact h.1
    · exact D.flats_mem h.2 d m
theorem D.flats_of : ∀ {l : List D}, (∀ d ∈ l, d.flat = true) → D.flats l = true
  | [], _ => by unfold D.flats; rfl
  | e :: l, h => by
    unfold D.flats
    rw [h e List.mem_cons_self, D.flats_of fun d hd => h d (List.mem_cons_of_mem _ hd)]
    rfl
/-- the refusals -/
def LX : List Str := ["NoNumber", "NoTable", "Flat", "Lifted", "Dipped", "NotOne", "NoName", "NoRow", "NoChoice", "NoSaying", "NoCover", "NoText", "NoLine"]
def LS : List Str := "SlackError" :: LX
def LP : List Str := ["NoRow", "NoChoice", "NoSaying", "NoCover", "NoText", "NoLine"]
def LF : List Str := ["top", "place", "choice", "row", "column", "name"]
def gB (K : PySem.W.Frag) (x : Str) : Bool := He.eqO (PySem.W.nsIn K mainGlobals x) (some (some (.ref (He.ga K x))))
def xcB (K : PySem.W.Frag) (x : Str) : Bool :=
  He.eqO (PySem.W.findIn K (.ref (He.ga K x)) "__getattribute__") (some (some (.builtin "BaseException.__getattribute__"))) && (He.eqO (PySem.W.findIn K (.ref (He.ga K x)) "__getattr__") (some none) &&
  (decide (PySem.W.subIn K (.ref (He.ga K x)) (.type "BaseException") = some true) && (PySem.W.hasDictIn K (He.ga K x) && (He.eqO (PySem.W.findIn K (.ref (He.ga K x)) "__class__") (some (some (.builtin "object.__class__"))) &&
  (decide (PySem.W.specialIn K (.builtin "object.__class__") "__get__" = some (some (.builtin "getset_descriptor.__get__"))) && (decide (PySem.W.takesIn K (.builtin "object.__class__") = some true) && decide (PySem.W.mroIn K (He.ga K x) (.type "object") = some true)))))))
theorem xcB_ok {K : PySem.W.Frag} {x : Str} (h : xcB K x = true) : ExcC K (He.ga K x) := by
  obtain ⟨h1, h⟩ := He.ba h
  obtain ⟨h2, h⟩ := He.ba h
  obtain ⟨h3, h⟩ := He.ba h
  obtain ⟨h4, h⟩ := He.ba h
  obtain ⟨h5, h⟩ := He.ba h
  obtain ⟨h6, h⟩ := He.ba h
  obtain ⟨h7, h8⟩ := He.ba h
  exact ⟨He.eqO_ok h1, He.eqO_ok h2, of_decide_eq_true h3, h4, He.eqO_ok h5, of_decide_eq_true h6, of_decide_eq_true h7, of_decide_eq_true h8⟩
def kiB (K : PySem.W.Frag) (x : Str) : Bool := (LX.all fun y => decide (PySem.W.kitOne K (.ref (He.ga K x)) (.ref (He.ga K y)) = some (decide (x = y)))) && (decide (PySem.W.kitOne K (.ref (He.ga K x)) (.ref (He.ga K "SlackError")) = some true) &&
  (decide (PySem.W.kitOne K (.ref (He.ga K x)) (.type "ValueError") = some true) && (decide (PySem.W.exmOne K (.ref (He.ga K x)) (.ref (He.ga K "SlackError")) = some true) && LF.all fun f => He.eqO (PySem.W.findIn K (.ref (He.ga K x)) f) (some none))))
def plB (K : PySem.W.Frag) (x : Str) : Bool := He.Fa.ok K (.exc x)
def xAll (K : PySem.W.Frag) : Bool := LS.all (gB K) && (LX.all (xcB K) && (LX.all (kiB K) && LP.all (plB K)))
structure XF (K : PySem.W.Frag) (mg : Str → Option Value) : Prop where
  glo : ∀ x, x ∈ LS → mg x = some (.ref (He.ga K x))
  exc : ∀ x, x ∈ LX → ExcC K (He.ga K x)
  kit : ∀ x, x ∈ LX → ∀ y, y ∈ LX → PySem.W.kitOne K (.ref (He.ga K x)) (.ref (He.ga K y)) = some (decide (x = y))
  kitS : ∀ x, x ∈ LX → PySem.W.kitOne K (.ref (He.ga K x)) (.ref (He.ga K "SlackError")) = some true
  kitV : ∀ x, x ∈ LX → PySem.W.kitOne K (.ref (He.ga K x)) (.type "ValueError") = some true
  cau : ∀ x, x ∈ LX → PySem.W.exmOne K (.ref (He.ga K x)) (.ref (He.ga K "SlackError")) = some true
  fld : ∀ x, x ∈ LX → ∀ f, f ∈ LF → PySem.W.findIn K (.ref (He.ga K x)) f = some none
  pl : ∀ x, x ∈ LP → ExK K mg x (He.ga K x)
theorem xAll_ok {K : PySem.W.Frag} {h : Heap} {mg : Str → Option Value} (X : K.In h) (G : h.Ns mainGlobals mg) (c : xAll K = true) : XF K mg := by
  obtain ⟨c1, c⟩ := He.ba c
  obtain ⟨c2, c⟩ := He.ba c
  obtain ⟨c3, c4⟩ := He.ba c
  have g1 : ∀ x, x ∈ LS → mg x = some (.ref (He.ga K x)) := fun x hx => He.glo_ok X G (x := x) (List.all_eq_true.mp c1 x hx)
  have k3 : ∀ x, x ∈ LX → _ := fun x hx => He.ba (List.all_eq_true.mp c3 x hx)
  refine ⟨g1, fun x hx => xcB_ok (List.all_eq_true.mp c2 x hx), fun x hx y hy => of_decide_eq_true (List.all_eq_true.mp (k3 x hx).1 y hy), fun x hx => of_decide_eq_true (He.ba (k3 x hx).2).1,
    fun x hx => of_decide_eq_true (He.ba (He.ba (k3 x hx).2).2).1, fun x hx => of_decide_eq_true (He.ba (He.ba (He.ba (k3 x hx).2).2).2).1, fun x hx f hf => He.eqO_ok (List.all_eq_true.mp (He.ba (He.ba (He.ba (k3 x hx).2).2).2).2 f hf), fun x hx => ?_⟩
  have z : (He.Fa.exc x).ok K = true := List.all_eq_true.mp c4 x hx
  obtain ⟨z1, z⟩ := He.ba z
  obtain ⟨z2, z⟩ := He.ba z
  obtain ⟨z3, z4⟩ := He.ba z
  exact ⟨z1, g1 x (List.mem_cons_of_mem _ ((by decide : ∀ x ∈ LP, x ∈ LX) x hx)), z2, of_decide_eq_true z3, of_decide_eq_true z4⟩
theorem XF.xfc {K : PySem.W.Frag} {mg : Str → Option Value} (F : XF K mg) {x : Str} (hx : x ∈ LX) : XfC K (He.ga K x) := ⟨(F.exc x hx).hg, (F.exc x hx).hk, (F.exc x hx).hs, (F.exc x hx).hd⟩
/-! ### the hook, with one more look at the written part -/
def obsE (eb : PySem.W.Frag → Bool) (tb : List (Str × List He.Dv)) (fa : List He.Fa) (fn : List He.DefD) (K : PySem.W.Frag) : AlT := (eb K && (obsT tb fa fn K).1, He.obsD fa fn K)
def obsEG (n : Nat) (eb : PySem.W.Frag → Bool) (tb : List (Str × List He.Dv)) (fa : List He.Fa) (fn : List He.DefD) (g : Addr → Option Obj) : AlT := obsE eb tb fa fn (He.frG g (He.asD g n))
def SaysE (eb : PySem.W.Frag → Bool) (tb : List (Str × List He.Dv)) (fa : List He.Fa) (fn : List He.DefD) (K : PySem.W.Frag) : Prop := obsE eb tb fa fn K = (true, He.valD fn)
def hookE (n : Nat) (eb : PySem.W.Frag → Bool) (tb : List (Str × List He.Dv)) (fa : List He.Fa) (fn : List He.DefD) : PySem.W.Hook where
  α := AlT
  obs := fun s => obsEG n eb tb fa fn s.heap.get?
  val := fun _ => (true, He.valD fn)
  says := fun _ h => ∃ K : PySem.W.Frag, K.In h ∧ SaysE eb tb fa fn K
  of := fun _ _ e => ⟨_, He.frG_in, e⟩
  keeps := fun _ _ _ ⟨K, hK, c⟩ k => ⟨K, PySem.W.Frag.In.keeps hK k, c⟩
theorem obsEG_eq {n : Nat} {eb : PySem.W.Frag → Bool} {tb : List (Str × List He.Dv)} {fa : List He.Fa} {fn : List He.DefD} {g : Addr → Option Obj} {s : Shared} (h : ∀ a, g a = s.heap.get? a) : obsEG n eb tb fa fn g = (hookE n eb tb fa fn).obs s := by
  have e : g = s.heap.get? := funext h
  rw [e] <;> rfl
theorem SaysE.ex {eb : PySem.W.Frag → Bool} {tb : List (Str × List He.Dv)} {fa : List He.Fa} {fn : List He.DefD} {K : PySem.W.Frag} (c : SaysE eb tb fa fn K) : eb K = true ∧ SaysT tb fa fn K := by
  have c1 : (eb K && (obsT tb fa fn K).1) = true := congrArg (fun z : AlT => z.1) c
  have c2 : He.obsD fa fn K = He.valD fn := congrArg (fun z : AlT => z.2) c
  obtain ⟨h1, h2⟩ := He.ba c1
  exact ⟨h1, Prod.ext h2 c2⟩
/-- a statement whose ways come together -/
theorem sv_consI {X : Cx} {fx : List Nat} {st : Stmt} {rest : List Stmt} {ss ts : List Slot} {E : DE} (I : List Slot → Prop) (h : S1 X fx st ss ts (E.thn I)) (k : ∀ s, I s → SV X fx rest s ts E) : SV X fx (st :: rest) ss ts E :=
  sv_cons fun B σ tv H D hh ke => h B σ tv H D hh ⟨fun s σ' H' q h' z => ke.nx s σ' H' (k s q) h' z, ke.rt, ke.bk, ke.ct⟩
theorem svx_consI {X : Cx} {B : Hp} {fx : List Nat} {st : Stmt} {rest : List Stmt} {ss ts : List Slot} {E : DE} {R : XD → List Slot → Prop} (I : List Slot → Prop) (h : S1X X B fx st ss ts (E.thn I) R) (k : ∀ s, I s → SVX X B fx rest s ts E R) : SVX X B fx (st :: rest) ss ts E R :=
  svx_cons fun σ tv H D hh ke t => h σ tv H D hh ⟨fun s σ' H' q h' z => ke.nx s σ' H' (k s q) h' z, ke.rt, ke.bk, ke.ct⟩ t
end DL
/-! The data layer, part S2: chained comparisons, len of a text, == of scalars. -/
namespace DL
open PySem PySem.Spec PyProof.Rows L2
section
variable {X : Cx} {fx : List Nat} {ss ts : List Slot} {Φ : List Slot → Slot → Prop} {Θ : List Slot → Bool → Prop} {e a b c l o : Expr} {pos p px p2 apos : Pos} {x n : Str}
theorem tChI {op op' : CmpOp} {g g' : Int → Int → Bool} (ho : OpR X (compareOp op) (rI0 fun i j => .bl (g i j))) (ho' : OpR X (compareOp op') (rI0 fun i j => .bl (g' i j)))
    (h : EV X a ss ts fun s1 r1 => EV X b s1 (r1 :: ts) fun s2 r2 => i2K (fun i j => (g i j = true → EV X c s2 (r2 :: r1 :: ts) fun s3 r3 => i1K (fun k => Θ s3 (g' j k)) r3) ∧ (g i j = false → Θ s2 false)) r1 r2) (hlm : lastMarks [op, op'] [b, c] = false) : TV X (.Compare a [op, op'] [b, c] pos) ss ts Θ := fun m B σ tv H Q hm hh k => by
  refine toT (pt_chain ho ho' pe_w pe_w pe_w hlm) ?_
  refine h m B σ tv H _ hm hh fun s1 r1 x H1 h1 hh1 => ?_
  refine h1 m B σ (x :: tv) H1 _ hm.up hh1 fun s2 r2 y H2 hq hh2 => ?_
  obtain ⟨i, j, rfl, rfl, q1, q2⟩ := i2K_of hq
  have z1 := hh2.top2 Slot.is_own
  have z2 := hh2.top Slot.is_own
  rw [rep_int] at z1 z2
  refine ⟨i, j, z1, z2, g i j, rfl, ?_⟩
  cases e : g i j with
  | true =>
    rw [if_pos rfl]
    refine q1 e m B σ (y :: x :: tv) H2 _ hm.up.up hh2 fun s3 r3 u H3 h3 hh3 => ?_
    obtain ⟨kk, rfl, q⟩ := i1K_of h3
    have z3 := hh3.top Slot.is_own
    rw [rep_int] at z3
    exact ⟨j, kk, z2, z3, _, rfl, k s3 _ H3 q (((hh3.pop hm.up.up).pop hm.up).pop hm)⟩
  | false =>
    rw [if_neg (by decide)]
    exact ⟨false, rfl, k s2 _ H2 (q2 e) ((hh2.pop hm.up).pop hm)⟩
theorem tLtLt (h : EV X a ss ts fun s1 r1 => EV X b s1 (r1 :: ts) fun s2 r2 => i2K (fun i j => (decide (i < j) = true → EV X c s2 (r2 :: r1 :: ts) fun s3 r3 => i1K (fun k => Θ s3 (decide (j < k))) r3) ∧ (decide (i < j) = false → Θ s2 false)) r1 r2) (hlm : lastMarks [.Lt, .Lt] [b, c] = false := by with_unfolding_all rfl) : TV X (.Compare a [.Lt, .Lt] [b, c] pos) ss ts Θ := tChI op_lt op_lt h hlm
theorem tLeLt (h : EV X a ss ts fun s1 r1 => EV X b s1 (r1 :: ts) fun s2 r2 => i2K (fun i j => (decide (i ≤ j) = true → EV X c s2 (r2 :: r1 :: ts) fun s3 r3 => i1K (fun k => Θ s3 (decide (j < k))) r3) ∧ (decide (i ≤ j) = false → Θ s2 false)) r1 r2) (hlm : lastMarks [.LtE, .Lt] [b, c] = false := by with_unfolding_all rfl) : TV X (.Compare a [.LtE, .Lt] [b, c] pos) ss ts Θ := tChI op_le op_lt h hlm
theorem eLenS (hm : X.mg "len" = none) (h : EV X e ss ts fun s r => s1K (fun x => x.length ≤ 1000000 ∧ Φ s (.own (.int ((x.length : Nat) : Int)))) r) (hg : Gl X "len" := by rfl)
    (he : starEach [e] X.env = (false, eval e X.env) :: starEach [] X.env := by rfl) : EV X (.Call (.Name "len" p) [e] [] pos) ss ts Φ :=
  ev_lenS hg hm (h.imp fun s r h => by
    obtain ⟨x, rfl, hl, q⟩ := s1K_of h
    exact ⟨x, Slot.is_own, hl, q⟩) he
theorem eEq (h : EV X a ss ts fun s1 r1 => EV X b s1 (r1 :: ts) fun s r2 => eq2K (fun t => Φ s (.own (.bl t))) r1 r2) : EV X (.Compare a [.Eq] [b] pos) ss ts Φ := ev_eq (h.imp fun s1 r1 h1 => h1.imp fun s r2 h2 => eq2K_of h2)
end
theorem nd1 {p : Prop} [Decidable p] {q : Prop} (h : p) (z : (!decide p) = true) : q := by rw [decide_eq_true h] at z; cases z
theorem dq1 {x : D} {q : Prop} (z : (!deq x x) = true) : q := by rw [deq_self] at z; cases z
/-! ### signs at the ends -/
theorem strip_nil {goes : Nat → Bool} {x : Str} : Txt.stripBy goes true true x = "" ↔ ∀ c ∈ x.cps.toList, goes c = true := by
  rw [stripBy_eq]
  obtain ⟨l1, l2, l3⟩ := lo_facts goes x
  obtain ⟨h1, h2, h3, h4⟩ := hi_facts goes x _ l1
  generalize stripLo goes true x = lo at *
  generalize stripHi goes true x lo = hi at *
  have len : (Builtin.Str.strSub x lo hi).cps.size = hi - lo := by
    unfold Builtin.Str.strSub
    rw [Array.size_extract]
    have : x.cps.size = x.length := rfl
    omega
  have nil : ∀ y : Str, y = "" ↔ y.cps.size = 0 := fun y => ⟨fun e => by rw [e]; rfl, fun e => by
    obtain ⟨a⟩ := y
    have : a = #[] := Array.size_eq_zero_iff.mp e
    rw [this]
    rfl⟩
  rw [nil, len]
  have sz : x.cps.size = x.length := rfl
  constructor
  · intro e c hc
    have hl : hi = lo := by omega
    obtain ⟨k, hk, rfl⟩ := List.getElem_of_mem hc
    have hk2 : k < x.length := by simpa [sz] using hk
    have e2 : x.cps.getD k 0 = x.cps.toList[k] := by
      rw [← getD_list]
      rw [List.getD_eq_getElem?_getD, List.getElem?_eq_getElem hk]; rfl
    have go : goes (x.cps.getD k 0) = true := by
      by_cases hkl : k < lo
      · exact l2 k hkl
      · exact h3 k (by omega) hk2
    rw [e2] at go
    exact go
  · intro h
    have : lo = x.length := by
      rcases l3 with e | e
      · exact e
      · by_cases hl : lo < x.length
        · have hk : lo < x.cps.toList.length := by simpa [sz] using hl
          have e2 : x.cps.getD lo 0 = x.cps.toList[lo] := by
            rw [← getD_list]
            rw [List.getD_eq_getElem?_getD, List.getElem?_eq_getElem hk]; rfl
          have := h x.cps.toList[lo] (List.getElem_mem _)
          rw [e2, this] at e
          cases e
        · omega
    omega
def isBin (x : Str) : Bool := x.cps.toList.all fun c => c == 48 || c == 49
theorem isBin_iff {x : Str} : isBin x = true ↔ ∀ c ∈ x.cps.toList, Two.Bin c := by
  unfold isBin
  rw [List.all_eq_true]
  exact ⟨fun h c hc => by have := h c hc; rw [Bool.or_eq_true, beq_iff_eq, beq_iff_eq] at this; exact this, fun h c hc => by rw [Bool.or_eq_true, beq_iff_eq, beq_iff_eq]; exact h c hc⟩
theorem strip01 {x : Str} : decide (Txt.stripChars x "01" = "") = isBin x := by
  rw [Bool.eq_iff_iff, decide_eq_true_eq, isBin_iff]
  unfold Txt.stripChars
  rw [strip_nil]
  have e : ("01" : Str).cps = #[48, 49] := by decide +kernel
  rw [e]
  have z : ∀ c, (#[48, 49] : Array Nat).contains c = true ↔ Two.Bin c := fun c => by
    unfold Two.Bin
    simp
  exact ⟨fun h c hc => (z c).mp (h c hc), fun h c hc => (z c).mpr (h c hc)⟩
end DL
/-! The data layer, part X5: refusals with fields, made and raised. -/
namespace DL
open PySem PySem.Spec PyProof.Rows L2
def oxB (K : PySem.W.Frag) (C : Addr) : Bool := match K.lookup C with
  | some ⟨.type "type", _, .cls cd, sl⟩ => (match cd.mro, sl.toList with
    | .ref D :: bm, [_, _, _, _, some (.builtin n), _] => D == C && (n == "ValueError.__new__" && (!cd.hasDel && (HandSPX.refsVE bm && cd.hasDict)))
    | _, _ => false)
  | _ => false
theorem oxB_ok {K : PySem.W.Frag} {C : Addr} (q : oxB K C = true) : ∃ nm q N bs bm sn sub ab col dd k0 k1 k2 k3 k5, K.lookup C = some (excClassObj nm q C N bs bm true sn sub ab col dd k0 k1 k2 k3 k5 "ValueError.__new__") ∧ HandSPX.refsVE bm = true := by
  unfold oxB at q
  split at q
  · rename_i dd cd sl ho
    split at q
    · rename_i D bm k0 k1 k2 k3 n k5 hm hs
      simp only [Bool.and_eq_true, beq_iff_eq, Bool.not_eq_true'] at q
      obtain ⟨rfl, rfl, hdel, hr, hdc⟩ := q
      obtain ⟨nm, bs, mro, ns, qn, hd, sn, sub, ab, col, del⟩ := cd
      dsimp only at hm hdel hdc
      subst hm hdel hdc
      have hsl : sl = #[k0, k1, k2, k3, some (.builtin "ValueError.__new__"), k5] := by
        obtain ⟨l⟩ := sl
        simp only at hs
        rw [hs]
      subst hsl
      exact ⟨nm, qn, ns, bs, bm, sn, sub, ab, col, dd, k0, k1, k2, k3, k5, ho, hr⟩
    · cases q
  · cases q
/-- B.__init__(self, ..), B a class without own __init__ -/
structure BIn (K : PySem.W.Frag) (mg : Str → Option Value) (x : Str) (B : Addr) : Prop where
  nm : mg x = some (.ref B)
  rd : PySem.W.readsIn K B (.type "type") = true
  ga : PySem.W.specialIn K (.ref B) "__getattribute__" = some (some (.builtin "type.__getattribute__"))
  fd : PySem.W.findCls K (.ref B) (.type "type") "__init__" = some (.val (.builtin "ValueError.__init__"))
theorem pe_binit {X : Cx} {x : Str} {B : Addr} {e : Expr} {es : List Expr} {ta : TA} {p1 p2 pos : Pos} {pl : Sem Bool} (T : BIn X.K X.mg x B) (ha : PA X (e :: es) ta) (hg : Gl X x := by rfl) (hdb : (x == ("__debug__" : Str)) = false := by decide)
    (hc : eval (.Call (.Attribute (.Name x p1) "__init__" p2) (e :: es) [] pos) X.env = (do
      let ov ← eval (.Name x p1) X.env
      standAt p2.atName
      let (f, first) ← holding [ov] (getMethod ov "__init__" pl)
      callWith pos f first (backTo pos (starEach (e :: es) X.env)) (backToKw pos (keywordEach [] X.env))) := by rfl)
    (he : starEach (e :: es) X.env = (false, eval e X.env) :: starEach es X.env := by rfl) (hpl : (backTo pos (starEach es X.env)).any (·.1) = false := by rfl) :
    PE X (.Call (.Attribute (.Name x p1) "__init__" p2) (e :: es) [] pos) (tVeI X.K ta) := by
  refine ⟨fun pins s σ H Q I h => ?_⟩
  refine PySem.W.methodCall_KW (ld_glob I hg T.nm ?_ hdb) hc
  refine PySem.W.method_cls I.kIn T.ga (PySem.W.cls_value I.kIn T.rd T.fd (by decide +kernel) ?_)
  show wpAny _ _ (callWith pos (Value.builtin "ValueError.__init__") [] (backTo pos (starEach (e :: es) X.env)) []) _ _ _
  refine PyProof.Rows.callWith_method1 (thn (ha.run pos pins _ σ H _ (I.tok _) h) fun us s1 ⟨vs, H1, I1, r1, a, C, ws, ev, hl, T', ea, q⟩ => ?_) he hpl
  subst ev
  cases r1 with
  | @cons _ u0 _ ur ra rw' =>
    obtain rfl : u0 = Value.ref a := ra
    have hlen : ur.length ≤ sizeLine := by
      rw [← Paired.length rw', sizeLine_eq]
      omega
    exact oinit_ok T' I1 ea hlen fun s' J => ⟨.non, H1, J, rfl, q⟩
/-- what such an __init__ of one field promises -/
def spF1 (K : PySem.W.Frag) (f : Str) : L2.Sp := fun vs H Q _ => ∃ (a C : Addr) (v : V), vs = [.ref a, v] ∧ OexC K C ∧ PySem.W.findIn K (.ref C) f = some none ∧ H a = some (exo a C none) ∧
  ∀ dx, H dx = none → dx ≠ a → Q .non (upd (upd H dx (exd dx [(f, v)])) a (exo a C (some dx)))
def spF2 (K : PySem.W.Frag) (f g : Str) : L2.Sp := fun vs H Q _ => ∃ (a C : Addr) (v u : V), vs = [.ref a, v, u] ∧ OexC K C ∧ PySem.W.findIn K (.ref C) f = some none ∧ PySem.W.findIn K (.ref C) g = some none ∧ H a = some (exo a C none) ∧
  ∀ dx, H dx = none → dx ≠ a → Q .non (upd (upd (upd H dx (exd dx [(f, v)])) a (exo a C (some dx))) dx (exd dx [(g, u), (f, v)]))
theorem mk_heap {H1 : Hp} {a dx : Addr} {o1 o2 o3 : HO} {fs : List (Str × V)} (na : H1 a = none) (nd : H1 dx = none) (ne : dx ≠ a) : upd (del (upd (upd (upd H1 a o1) dx o2) a o3) a) dx (.xd fs) = upd H1 dx (.xd fs) := by
  funext b
  by_cases h1 : b = dx
  · rw [h1, upd_same, upd_same]
  · rw [upd_ne h1, upd_ne h1]
    by_cases h2 : b = a
    · rw [h2, del_same, na]
    · rw [del_ne h2, upd_ne h2, upd_ne h1, upd_ne h2]
theorem mk_heap2 {H1 : Hp} {a dx : Addr} {o1 o2 o3 o4 : HO} {fs : List (Str × V)} (na : H1 a = none) (nd : H1 dx = none) (ne : dx ≠ a) : upd (del (upd (upd (upd (upd H1 a o1) dx o2) a o3) dx o4) a) dx (.xd fs) = upd H1 dx (.xd fs) := by
  funext b
  by_cases h1 : b = dx
  · rw [h1, upd_same, upd_same]
  · rw [upd_ne h1, upd_ne h1]
    by_cases h2 : b = a
    · rw [h2, del_same, na]
    · rw [del_ne h2, upd_ne h1, upd_ne h2, upd_ne h1, upd_ne h2]
/-- what an own exception class with an __init__ of its own has -/
structure ExI (P : Program) (w : World) (K : PySem.W.Frag) (mg : Str → Option Value) (base : Heap) (x : Str) (C : Addr) (ps : List Str) (sp : L2.Sp) : Prop where
  ox : OexC K C
  nm : mg x = some (.ref C)
  ini : ∃ (fI : Addr) (fd : FuncData), PySem.W.findIn K (.ref C) "__init__" = some (some (.ref fI)) ∧ PySem.W.typeIn K (.ref fI) = some (.type "function") ∧ FnOk P w K mg base CX0 1 fI fd ps sp ∧ Binds K fd ps []
section
variable {X : Cx} {ss ts : List Slot} {e e2 : Expr} {p pos : Pos} {x f g : Str} {C : Addr} {ps : List Str}
theorem mk_one {Ψ : List Slot → XD → Prop} (T : ExI X.prog X.w X.K X.mg X.base x C ps (spF1 X.K f)) (hr : Room 2 X.A) (hno : PySem.W.findIn X.K (.ref C) f = some none)
    (h : EV X e ss ts fun s r => d1K (fun d => d.flat = true ∧ Ψ s ⟨C, [f], [d]⟩) r) (hg : Gl X x := by rfl) (hdb : (x == ("__debug__" : Str)) = false := by decide)
    (he : starEach [e] X.env = (false, eval e X.env) :: starEach [] X.env := by rfl) (hpl : (backTo pos (starEach [] X.env)).any (·.1) = false := by rfl) : MV X (.Call (.Name x p) [e] [] pos) ss ts Ψ := fun m B σ tv H Q hm hh k => by
  obtain ⟨fI, fd, i1, i2, i3, i4⟩ := T.ini
  refine toMk (pmk_oex (dvs := []) T.ox i1 i2 i3 hr i4 .nil pass0 hg T.nm (pa_cons pe_w pa_nil he) hdb he hpl) ?_
  refine h m B σ tv H _ hm hh fun s1 r1 v H1 h1 hh1 => ?_
  obtain ⟨d, id, fl, q⟩ := d1K_of h1
  refine ⟨by show 1 ≤ 1000; decide, fun a na => ⟨a, C, v, rfl, T.ox, hno, upd_same, fun dx nd ne => ⟨rfl, dx, [(f, v)], upd_same, ?_, ?_, ?_⟩⟩⟩
  · rw [upd_ne ne, upd_same]
  · rw [upd_ne ne] at nd
    exact nd
  · rw [upd_ne ne] at nd
    rw [mk_heap na nd ne]
    have ex : Ex H1 (upd H1 dx (.xd [(f, v)])) := Ex.new nd
    refine k s1 ⟨C, [f], [d]⟩ _ _ _ q ⟨rfl, by rw [D.flats_cons, fl]; unfold D.flats; rfl, [(f, v)], .inr ⟨dx, rfl, upd_same⟩, rfl, reps_cons ((hh1.top id).mono ex) reps_nil⟩ ((hh1.pop hm).ex ex)
theorem mk_two {Ψ : List Slot → XD → Prop} (T : ExI X.prog X.w X.K X.mg X.base x C ps (spF2 X.K f g)) (hr : Room 2 X.A) (hno : PySem.W.findIn X.K (.ref C) f = some none) (hno2 : PySem.W.findIn X.K (.ref C) g = some none)
    (h : EV X e ss ts fun s1 r1 => EV X e2 s1 (r1 :: ts) fun s r => d1K (fun d1 => d1K (fun d2 => (d1.flat = true ∧ d2.flat = true) ∧ Ψ s ⟨C, [g, f], [d2, d1]⟩) r) r1) (hg : Gl X x := by rfl) (hdb : (x == ("__debug__" : Str)) = false := by decide)
    (he : starEach [e, e2] X.env = (false, eval e X.env) :: starEach [e2] X.env := by rfl) (he2 : starEach [e2] X.env = (false, eval e2 X.env) :: starEach [] X.env := by rfl) (hpl : (backTo pos (starEach [e2] X.env)).any (·.1) = false := by rfl) : MV X (.Call (.Name x p) [e, e2] [] pos) ss ts Ψ := fun m B σ tv H Q hm hh k => by
  obtain ⟨fI, fd, i1, i2, i3, i4⟩ := T.ini
  refine toMk (pmk_oex (dvs := []) T.ox i1 i2 i3 hr i4 .nil pass0 hg T.nm (pa_cons pe_w (pa_cons pe_w pa_nil he2) he) hdb he hpl) ?_
  refine h m B σ tv H _ hm hh fun s1 r1 v H1 h1 hh1 => ?_
  refine h1 m B σ (v :: tv) H1 _ hm.up hh1 fun s2 r2 u H2 h2 hh2 => ?_
  obtain ⟨d1, i1', h3⟩ := d1K_of h2
  obtain ⟨d2, i2', ⟨fl1, fl2⟩, q⟩ := d1K_of h3
  refine ⟨by show 2 ≤ 1000; decide, fun a na => ⟨a, C, v, u, rfl, T.ox, hno, hno2, upd_same, fun dx nd ne => ⟨rfl, dx, [(g, u), (f, v)], ?_, upd_same, ?_, ?_⟩⟩⟩
  · rw [upd_ne (Ne.symm ne), upd_same]
  · rw [upd_ne ne] at nd
    exact nd
  · rw [upd_ne ne] at nd
    rw [mk_heap2 na nd ne]
    have ex : Ex H2 (upd H2 dx (.xd [(g, u), (f, v)])) := Ex.new nd
    refine k s2 ⟨C, [g, f], [d2, d1]⟩ _ _ _ q ⟨rfl, by rw [D.flats_cons, D.flats_cons, fl1, fl2]; unfold D.flats; rfl, [(g, u), (f, v)], .inr ⟨dx, rfl, upd_same⟩, rfl, reps_cons ((hh2.top i2').mono ex) (reps_cons ((hh2.top2 i1').mono ex) reps_nil)⟩ (((hh2.pop hm.up).pop hm).ex ex)
end
/-! ### the head's look at such classes -/
def LI : List Str := ["NoNumber", "NoTable", "Flat", "Lifted", "Dipped", "NotOne", "NoName"]
def iB (K : PySem.W.Frag) (x : Str) : Bool := oxB K (He.ga K x) && (He.eqO (PySem.W.findIn K (.ref (He.ga K x)) "__setattr__") (some (some (.builtin "object.__setattr__"))) && (decide (PySem.W.subIn K (.ref (He.ga K x)) (.type "BaseException") = some true) && (decide (PySem.W.typeIn K (.ref (He.ga K x)) = some (.type "type")) &&
  (PySem.W.keepIn K (.ref (He.ga K x)) && (He.eqO (PySem.W.findIn K (.ref (He.ga K x)) "__init__") (some (some (.ref (He.ma K (He.ga K x) "__init__")))) && decide (PySem.W.typeIn K (.ref (He.ma K (He.ga K x) "__init__")) = some (.type "function")))))))
def bB (K : PySem.W.Frag) : Bool := PySem.W.readsIn K (He.ga K "SlackError") (.type "type") && (decide (PySem.W.specialIn K (.ref (He.ga K "SlackError")) "__getattribute__" = some (some (.builtin "type.__getattribute__"))) &&
  match PySem.W.findCls K (.ref (He.ga K "SlackError")) (.type "type") "__init__" with
  | some (.val (.builtin i)) => i == "ValueError.__init__"
  | _ => false)
theorem iB_ok {K : PySem.W.Frag} {x : Str} (h : iB K x = true) : OexC K (He.ga K x) ∧ PySem.W.findIn K (.ref (He.ga K x)) "__init__" = some (some (.ref (He.ma K (He.ga K x) "__init__"))) ∧ PySem.W.typeIn K (.ref (He.ma K (He.ga K x) "__init__")) = some (.type "function") := by
  obtain ⟨h1, h⟩ := He.ba h
  obtain ⟨h2, h⟩ := He.ba h
  obtain ⟨h3, h⟩ := He.ba h
  obtain ⟨h4, h⟩ := He.ba h
  obtain ⟨h5, h⟩ := He.ba h
  obtain ⟨h6, h7⟩ := He.ba h
  exact ⟨⟨oxB_ok h1, He.eqO_ok h2, of_decide_eq_true h3, of_decide_eq_true h4, h5⟩, He.eqO_ok h6, of_decide_eq_true h7⟩
theorem bB_ok {K : PySem.W.Frag} {mg : Str → Option Value} (hm : mg "SlackError" = some (.ref (He.ga K "SlackError"))) (h : bB K = true) : BIn K mg "SlackError" (He.ga K "SlackError") := by
  obtain ⟨h1, h⟩ := He.ba h
  obtain ⟨h2, h3⟩ := He.ba h
  refine ⟨hm, h1, of_decide_eq_true h2, ?_⟩
  split at h3
  · rename_i i e
    rw [e, beq_iff_eq.mp h3]
  · cases h3
def xAllI (l : List Str) (K : PySem.W.Frag) : Bool := xAll K && (bB K && l.all (iB K))
/-- a class that is told, with its def __init__ -/
theorem exI_of {P : Program} {w : World} {K : PySem.W.Frag} {mg : Str → Option Value} {base : Heap} {x : Str} {ps : List Str} {sp : L2.Sp} {fd : FuncData} (h : iB K x = true) (hm : mg x = some (.ref (He.ga K x))) (F : FnOk P w K mg base CX0 1 (He.ma K (He.ga K x) "__init__") fd ps sp) (b : Binds K fd ps []) : ExI P w K mg base x (He.ga K x) ps sp :=
  ⟨(iB_ok h).1, hm, _, fd, (iB_ok h).2.1, (iB_ok h).2.2, F, b⟩
end DL
set_option maxHeartbeats 2000000
/-! The data layer, part H1: a handler that refuses with the caught one as its cause. -/
namespace DL
open PySem PySem.Spec PyProof.Rows HotX
def causeOf (h : Heap) (a x1 : Addr) : Heap := (h.update a (Obj.mapFields (·.setIfInBounds 3 (.ref x1)))).update a (Obj.mapFields (·.setIfInBounds 4 (.bool true)))
theorem causeOf_at {h : Heap} {a x1 : Addr} {oe : Obj} {vs : Array Value} (ha : h.get? a = some oe) (hd : oe.data = .fields vs) :
    (causeOf h a x1).get? a = some ((oe.mapFields (·.setIfInBounds 3 (.ref x1))).mapFields (·.setIfInBounds 4 (.bool true))) ∧ ((oe.mapFields (·.setIfInBounds 3 (.ref x1))).mapFields (·.setIfInBounds 4 (.bool true))).data = .fields ((vs.setIfInBounds 3 (.ref x1)).setIfInBounds 4 (.bool true)) := by
  have hd3 := Obj.data_mapFields hd (·.setIfInBounds 3 (.ref x1))
  have ha3 := Heap.get?_update_self (Obj.mapFields (·.setIfInBounds 3 (.ref x1))) ha (Obj.isFreed_of_fields hd3)
  have hd4 := Obj.data_mapFields hd3 (·.setIfInBounds 4 (.bool true))
  exact ⟨Heap.get?_update_self (Obj.mapFields (·.setIfInBounds 4 (.bool true))) ha3 (Obj.isFreed_of_fields hd4), hd4⟩
theorem causeOf_other {h : Heap} {a b x1 : Addr} (hne : a ≠ b) : (causeOf h a x1).get? b = h.get? b := by
  unfold causeOf
  rw [Heap.get?_update_other _ _ hne, Heap.get?_update_other _ _ hne]
theorem raise_made_hotF {prog : Program} {w : World} {A : Around} {E : Value → Shared → Prop} {env : Env} {s : Shared} {x c : Sem Value} {Q : Flow → Shared → Prop} {x1 : Addr}
    (h : wpAny (model prog w) A x (fun v s₁ => (∀ Q' : Value → Shared → Prop, Q' (.ref x1) s₁ → wpAny (model prog w) A c Q' E s₁) ∧ PySem.W.Looks (model prog w) s₁.heap (isInstance (.ref x1) (.type "BaseException")) true ∧ ∃ a oe vs cls, v = .ref a ∧ s₁.heap.get? a = some oe ∧ oe.cls = cls ∧ oe.data = .fields vs ∧ vs[1]? = some .none ∧ 4 < vs.size ∧ x1 ≠ a ∧ HotAt A x1 s₁.heap ∧
      PySem.W.Looks (model prog w) s₁.heap (isSubtype cls (.type "BaseException")) true ∧ PySem.W.Looks (model prog w) (causeOf s₁.heap a x1) (typeOf cls) (.type "type") ∧
      E (.ref a) { s₁ with heap := (causeOf s₁.heap a x1).update a (Obj.mapFields (·.setIfInBounds 2 (.ref x1))) }) E s) :
    wpAny (model prog w) A (raiseStmt env (some x) (some c)) Q E s := by
  unfold raiseStmt
  dsimp only
  refine wpAny_bind (wpAny_mono h (fun v s₁ h₁ => ?_) fun _ _ x => x)
  obtain ⟨hcs, LX, a, oe, vs, cls, rfl, ha, hcls, hd, h1, hi, hne, hot, L1, L3, hE⟩ := h₁
  have LT : PySem.W.Looks (model prog w) s₁.heap (typeOf (.ref a)) cls := fun A Q E s k q => wpAny_typeOf_ref (k _ _ ha) (by rw [hcls]; exact q)
  have LI : PySem.W.Looks (model prog w) s₁.heap (isInstance (.ref a) (.type "BaseException")) true := LT.andThen L1
  have hnt : ∀ {Q' : Bool → Shared → Prop}, Q' false s₁ → wpAny (model prog w) A (isType (.ref a)) Q' E s₁ := by
    intro Q' hq
    simp only [isType, loadHead]
    refine wpAny_bind (wpAny_loadPart ha ?_)
    rw [hd]; exact wpAny_pure hq
  have hntX : ∀ {Q' : Bool → Shared → Prop}, Q' false s₁ → wpAny (model prog w) A (isType (.ref x1)) Q' E s₁ := by
    intro Q' hq
    obtain ⟨_, o, vs', q2, q3, _⟩ := hot
    simp only [isType, loadHead]
    refine wpAny_bind (wpAny_loadPart q2 ?_)
    rw [q3]; exact wpAny_pure hq
  have hd3 := Obj.data_mapFields hd (·.setIfInBounds 3 (.ref x1))
  have ha3 := Heap.get?_update_self (Obj.mapFields (·.setIfInBounds 3 (.ref x1))) ha (Obj.isFreed_of_fields hd3)
  obtain ⟨ha4, hd4⟩ := causeOf_at (x1 := x1) ha hd
  have s3 : 3 < vs.size := by omega
  have s4 : 4 < (vs.setIfInBounds 3 (Value.ref x1)).size := by rw [set_size]; exact hi
  have s2 : 2 < ((vs.setIfInBounds 3 (Value.ref x1)).setIfInBounds 4 (Value.bool true)).size := by rw [set_size, set_size]; omega
  have h14 : ((vs.setIfInBounds 3 (Value.ref x1)).setIfInBounds 4 (Value.bool true))[1]? = some Value.none := set_other (by decide) (set_other (by decide) h1)
  have hcls4 : ((oe.mapFields (·.setIfInBounds 3 (.ref x1))).mapFields (·.setIfInBounds 4 (.bool true))).cls = cls := by rw [Obj.cls_mapFields, Obj.cls_mapFields]; exact hcls
  have LT4 : PySem.W.Looks (model prog w) (causeOf s₁.heap a x1) (typeOf (.ref a)) cls := fun A Q E s k q => wpAny_typeOf_ref (k _ _ ha4) (by rw [hcls4]; exact q)
  have hnt4 : ∀ {Q' : Bool → Shared → Prop}, Q' false { s₁ with heap := causeOf s₁.heap a x1 } → wpAny (model prog w) A (isType (.ref a)) Q' E { s₁ with heap := causeOf s₁.heap a x1 } := by
    intro Q' hq
    simp only [isType, loadHead]
    refine wpAny_bind (wpAny_loadPart ha4 ?_)
    rw [hd4]; exact wpAny_pure hq
  have hot4 : HotAt A x1 (causeOf s₁.heap a x1) := by
    obtain ⟨q1, o, vs', q2, q3, q4⟩ := hot
    exact ⟨q1, o, vs', by rw [causeOf_other (Ne.symm hne)]; exact q2, q3, q4⟩
  have rest : wpAny (model prog w) A (do
      let b ← isType (.ref a)
      if b = true then do
        let e ← holding [.ref a] (raisedFor (.ref a) (.ref a))
        setFlight e none
        raiseNew e
      else do
        let e ← raisedInstance (.ref a)
        setFlight e none
        raiseNew e : Sem Flow) Q E { s₁ with heap := causeOf s₁.heap a x1 } := by
    refine wpAny_bind (hnt4 ?_)
    simp only [Bool.false_eq_true, if_false]
    unfold raisedInstance
    refine wpAny_bind (wpAny_bind (LT4.here (wpAny_bind (L3.here ?_))))
    rw [if_pos (beq_self_eq_true _)]
    refine wpAny_pure ?_
    unfold setFlight
    refine wpAny_bind (wpAny_bind (wpAny_field ha4 hd4 h14 ?_))
    rw [if_neg (by decide)]
    refine wpAny_pure ?_
    exact raiseNew_hot hot4 hne ha4 hd4 s2 hE
  refine wpAny_bind (wpAny_holding (hcs _ (wpAny_bind (wpAny_pure ?_))))
  dsimp only
  refine wpAny_bind (wpAny_holding ?_)
  unfold excFromValue isExcClass
  refine wpAny_bind (wpAny_bind (hnt ?_))
  simp only [Bool.false_eq_true, if_false]
  refine wpAny_pure ?_
  simp only [Bool.false_eq_true, if_false]
  refine wpAny_bind (LI.here ?_)
  simp only [if_true]
  refine wpAny_pure ?_
  rw [if_neg (show ¬ ((Value.ref x1 == Value.none) = true) from by simp)]
  refine wpAny_bind (wpAny_holding ?_)
  refine wpAny_bind (wpAny_bind (hntX ?_))
  simp only [Bool.false_eq_true, if_false]
  refine wpAny_pure ?_
  simp only [Bool.false_eq_true, if_false]
  refine wpAny_bind (LX.here ?_)
  simp only [if_true]
  refine wpAny_pure ?_
  first
  | refine wpAny_bind (wpAny_setField ha hd s3 (wpAny_bind (wpAny_setField ha3 hd3 s4 ?_)))
  | refine wpAny_bind (wpAny_bind (wpAny_setField ha hd s3 (wpAny_setField ha3 hd3 s4 ?_)))
  first
  | exact rest
  | (dsimp only; exact rest)
  | (refine wpAny_pure ?_; exact rest)
  | (simp only [bind_pure_comp] ; exact rest)
open L2 L2H in
theorem ps_raiseHF {X : Cx} {W : WX} {e : Expr} {t : L2.St → Hp → XK → Prop} {i : Nat} {n : Str} {cpos pos : Pos} {p : Addr × Obj} (hh : Hot1 X.A p) (hp : p ∈ X.pn) (rp : Raises X p.2.cls) (hi : X.N[i]? = some n) (hln : X.env.kindOf n = some .local) (tk : L2.Takes X W) (he : PMk5 X e t)
    (hdb : (n == ("__debug__" : Str)) = false := by decide) :
    PS X (.Raise (some e) (some (.Name n cpos)) pos) (fun _ σ H => σ[i]? = some (some (.ref p.1)) ∧ t σ H fun cls d H' => W cls d σ H') := by
  refine ⟨fun pins s σ H D I ⟨hs, h⟩ => ?_⟩
  obtain ⟨hA, v1, e1, c1⟩ := id hh
  show wpAny _ _ (do standAt pos; raiseStmt X.env (some (do let v ← eval e X.env; standAt pos; pure v)) (some (do let v ← eval (.Name n cpos) X.env; standAt pos; pure v))) _ _ _
  refine wpAny_bind (wpAny_standAt (raise_made_hotF (x1 := p.1) (wpAny_bind (wpAny_mono (he pins s σ H _ I h) (fun u s1 hu => wpAny_bind (wpAny_standAt (wpAny_pure ?_))) fun _ _ x => x))))
  obtain ⟨⟨a, oe, vs, sI, H', cls, d, rfl, J, k, hne, ha, hz, hd, h1, na, os, ag, r, q⟩, h5⟩ := hu
  have hi4 : 4 < vs.size := h5 a oe vs rfl ha hd
  have P1 := (J.pin p (List.mem_append_left _ hp)).1
  have nap : p.1 ≠ a := fun z => by
    rw [z, hne] at P1
    cases P1
  refine ⟨fun Q2 q2 => ?_, ?_, ?_⟩
  · obtain ⟨m, hn, hl⟩ := J.loc
    obtain ⟨u, ru, l⟩ := hl i n _ hi hs (.inl hln)
    obtain rfl : u = Value.ref p.1 := ru
    rcases l with ⟨hk, hm⟩ | ⟨hk, _⟩
    · exact wpAny_bind (wpAny_Name (wpAny_loadName_local J.ok.kind hk (hn.keeps k) hm (wpAny_bind (wpAny_standAt (wpAny_pure q2)))) hdb)
    · rw [hln] at hk
      rcases hk with hk | hk <;> cases hk
  · have LT : PySem.W.Looks (model X.prog X.w) s1.heap (typeOf (.ref p.1)) p.2.cls := fun A Q E s k2 q => wpAny_typeOf_ref (k2 _ _ (k _ _ P1)) q
    exact LT.andThen ((rp (model X.prog X.w) s1.heap (J.kIn.keeps k)).1)
  have k4 : ∀ b u, sI.heap.get? b = some u → (causeOf s1.heap a p.1).get? b = some u := fun b u z => by
    have nab : a ≠ b := fun y => by
      rw [← y, hne] at z
      cases z
    rw [causeOf_other nab]
    exact k b u z
  obtain ⟨r1, _⟩ := r (model X.prog X.w) s1.heap (J.kIn.keeps k)
  obtain ⟨_, r2⟩ := r (model X.prog X.w) (causeOf s1.heap a p.1) (J.kIn.keeps k4)
  obtain ⟨ha4, hd4⟩ := causeOf_at (x1 := p.1) ha hd
  have h12 : (((vs.setIfInBounds 3 (Value.ref p.1)).setIfInBounds 4 (Value.bool true)).setIfInBounds 2 (Value.ref p.1))[1]? = some Value.none := set_other (by decide) (set_other (by decide) (set_other (by decide) h1))
  refine ⟨a, oe, vs, cls, rfl, ha, hz.1, hd, h1, hi4, nap, ⟨hA, p.2, v1, k _ _ P1, e1, c1⟩, r1, r2, tk _ _ (XE.new J (fun b u z => ?_) hne (Heap.get?_update_self _ ha4 (Obj.isFreed_of_fields (Obj.data_mapFields hd4 _)))
    ⟨by rw [Obj.cls_mapFields, Obj.cls_mapFields, Obj.cls_mapFields]; exact hz.1, by rw [HandSPX.dict_mapFields, HandSPX.dict_mapFields, HandSPX.dict_mapFields]; exact hz.2.1⟩ (Obj.data_mapFields hd4 _) h12 na os ag q)⟩
  have nab : a ≠ b := fun y => by
    rw [← y, hne] at z
    cases z
  show ((causeOf s1.heap a p.1).update a (Obj.mapFields (·.setIfInBounds 2 (.ref p.1)))).get? b = some u
  rw [Heap.get?_update_other _ _ nab]
  exact k4 b u z
end DL
set_option maxHeartbeats 2000000
/-! The data layer, part H2: try .. except C as n: a suite that refuses. (turned from the library's rules for a suite without name and for one that does not raise) -/
namespace DL
open PySem PySem.Spec PyProof.Rows HotX L2 L2H
abbrev suiteY (X : Cx) (a : Addr) (pn : List (Addr × Obj)) (E : Value → Shared → Prop) : Cx := { X with A := X.A.mark (some (.ref a)), calm := false, pn := pn, xe := E }
section
variable {X : Cx} {pins : List (Addr × Obj)} {σ : L2.St} {H : Hp} {s : Shared}
theorem suiteY_of {a : Addr} {pn pn' : List (Addr × Obj)} {E : Value → Shared → Prop} (I : Inv (X.suite a pn) pn' σ H s) : Inv (suiteY X a pn E) pn' σ H s := Inv.unwish (X := suiteY X a pn E) (E := fun _ _ => False) I
theorem unsuiteY {a : Addr} {q : Addr × Obj} {pn' : List (Addr × Obj)} {E : Value → Shared → Prop} (I : Inv (suiteY X a (q :: (X.pn ++ pins)) E) pn' σ H s) (ok : X.Ok) : Inv X pins σ H s :=
  Inv.unsuite (X := X) (a := a) (q := q) (pn' := pn') (show Inv (X.suite a (q :: (X.pn ++ pins))) pn' σ H s from I.wish fun _ _ => False) ok
theorem inv_gone {m : Str → Option Value} {h' : Heap} {v : Option Value} {i : Nat} {n : Str} {t : Nat} (I : Inv X pins σ H s) (hN : X.N.Nodup) (hi : X.N[i]? = some n)
    (hlk : ∀ (j : Nat) (x : Str) (v : V), X.N[j]? = some x → σ[j]? = some (some v) → Vis X.env.scope x → ∃ u, RelV v u ∧ Look X.env s.heap m x u)
    (hn' : h'.Ns X.env.locals (fun x => if x = n then v else m x)) (hs : Heap.SameBut X.env.locals s.heap h') : Inv X pins (σ.set i none) H { s with heap := h', toks := t } := by
  have neL : ∀ b o, X.s_0.heap.get? b = some o → b ≠ X.env.locals := fun b o e => Nat.ne_of_lt (Nat.lt_of_lt_of_le (Heap.lt_size e) I.ok.above)
  refine ⟨I.ok, I.os, I.bare, ⟨fun b o e n hb hx => ?_, fun b o e n hb hx => ?_, I.base.free, fun b o e hx => ?_, I.base.tups, I.base.frzs, I.base.tbls⟩, ⟨_, hn', fun j y v' e1 e2 e3 => ?_⟩, fun y c e => ?_, I.free, I.freeC, fun p hp => ?_, fun b ob e => ?_, by simpa using I.len⟩
  · exact (hs.2 b (neL b o e)).trans (I.base.keep b o e n hb hx)
  · obtain ⟨sl, e1⟩ := I.base.slot b o e n hb hx
    exact ⟨sl, (hs.2 b (neL b o e)).trans e1⟩
  · obtain ⟨o', e1⟩ := I.base.there b o e hx
    exact ⟨o', (hs.2 b (neL b o e)).trans e1⟩
  · by_cases hj : j = i
    · subst hj
      by_cases hlt : j < σ.length
      · rw [List.getElem?_set_self hlt] at e2; cases e2
      · rw [List.getElem?_eq_none (by simpa using hlt)] at e2; cases e2
    · rw [List.getElem?_set_ne (Ne.symm hj)] at e2
      obtain ⟨u', r', q⟩ := hlk j y v' e1 e2 e3
      refine ⟨u', r', ?_⟩
      rcases q with ⟨k, e⟩ | ⟨k, c, e, z⟩
      · have ny : y ≠ n := fun e => hj (nodup_ix hN e1 (e ▸ hi))
        exact .inl ⟨k, (if_neg ny).trans e⟩
      · exact .inr ⟨k, c, e, z.sameBut hs (I.cne y c e)⟩
  · obtain ⟨w', z⟩ := I.cell y c e
    exact ⟨w', z.sameBut hs (I.cne y c e)⟩
  · obtain ⟨e, n, ne, nf, d⟩ := I.pin p hp
    exact ⟨(hs.2 p.1 ne).trans e, n, ne, nf, d⟩
  · refine (I.hok b ob e).stay (fun c w' hc q => (hs.2 c ?_).trans q) (fun _ q => q) fun _ _ q => q
    intro z
    subst z
    rcases hc with hc | hc
    · rw [← hc, I.free] at e; cases e
    · rw [I.free] at hc; cases hc
theorem tracedZ_sameBut {h h' base : Heap} {e L : Addr} {Z : Obj → Prop} {fl : Value} {m : Str → Option Value} (x : HandSPX.TracedZ h base e Z fl) (hn : h.Ns L m) (hs : Heap.SameBut L h h') : HandSPX.TracedZ h' base e Z fl := by
  obtain ⟨oe, vs, T, oT, ts, he, hc, hd, h1, hnT, hTe, hT, hdT, h3⟩ := x
  obtain ⟨oL, es, ep, hoL, hdL, _⟩ := hn
  have neE : e ≠ L := fun q => by
    rw [q, hoL] at he
    have z := Option.some.inj he
    rw [← z, hdL] at hd
    cases hd
  have neT : T ≠ L := fun q => by
    rw [q, hoL] at hT
    have z := Option.some.inj hT
    rw [← z, hdL] at hdT
    cases hdT
  exact ⟨oe, vs, T, oT, ts, (hs.2 e neE).trans he, hc, hd, h1, hnT, hTe, (hs.2 T neT).trans hT, hdT, h3⟩
theorem sky_note {M : Model} {A : Around} {E₁ : Value → Shared → Prop} {env : Env} {outer : List Env} {B : Heap} {L a : Addr} {Z : Obj → Prop} {Q : Unit → Shared → Prop} (hZ : HandSPX.Steady Z) (hfr : A.frames = some (env :: outer)) (hf : env.frame = some L)
    (x : Sky B (env :: outer) a Z L s.heap) (hQ : ∀ h', HandSPX.HeldZ B (env :: outer) a Z L h' → s.heap.UpToSlots h' → Q () { s with heap := h' }) :
    wpAny M A (noteFrame (.ref a) env) Q E₁ s := by
  rcases x with ⟨hB, hn, hl, oe, vs, he, hz, hd, h1⟩ | fl | hh
  · exact HandSPX.look_newZ hZ hfr hl hf he hB hn hd h1 hz hQ
  · exact HandSPX.looks_onZ hZ hfr hf fl hQ
  · exact HandSPX.againZ hf hh.2.2.2 (hQ s.heap hh (Heap.UpToSlots.refl _))
/-- what flies out of the suite: the name goes, then on -/
theorem as_out {i : Nat} {n : Str} {pos' : Pos} {A' : Around} {Wout : WX} (hfrA : A'.frames = some (X.env :: X.outer)) (hs : X.stack = X.env :: X.outer) (hf : X.env.frame = some X.env.locals) (hN : X.N.Nodup) (hi : X.N[i]? = some n) (hln : X.env.kindOf n = some .local) (tk : Takes X Wout) {u : Value} {s' : Shared}
    (xx : XE X (fun cls d σ H => Wout cls d (σ.set i none) H) u s') {E₀ E₁ : Value → Shared → Prop} :
    wpAny (model X.prog X.w) A' (noteFrame u X.env) (fun _ s₃' =>
      wpAny (model X.prog X.w) A' (do bindName X.env n .none; unbindBehindTheSuite X.env n pos')
        (fun _ s₄ => wpAny (model X.prog X.w) A' (PySem.passOn "try.except-as" u X.env : Sem Flow) (fun _ _ => False) (notedBy (model X.prog X.w) A' X.env (cameBackBy (model X.prog X.w) X.A X.env X.xe)) s₄)
        E₀ s₃') E₁ s' := by
  obtain ⟨a, B, sI, pins, σ, H, cls, d, rfl, J, nb, up, sky, na, os, ag, w⟩ := xx
  rw [hs] at sky
  refine sky_note Zc.steady hfrA hf sky fun h1 hh1 up1 => ?_
  obtain ⟨m, hn, hlk⟩ := id J.loc
  have hn1 : h1.Ns X.env.locals m := Heap.Ns.upToSlots hn (up.trans up1)
  have hcls : (X.env.scope.kind == .class || (X.env.scope.kind == .module && X.env.locals != X.env.globals)) = false := by rw [J.ok.kind]; rfl
  refine wpAny_nameGoes_keeps hln hn1 hcls fun h2 v hn2 hs2 => ?_
  obtain ⟨b1, b0, f1, t1⟩ := hh1
  have hbL : B.get? X.env.locals = none := by
    obtain ⟨_, ⟨L', _, hf', hb', _⟩, _⟩ := f1
    rw [hf] at hf'
    rw [Option.some.inj hf']
    exact hb'
  have b2 : B.StaysIn h2 := fun b o hb => (hs2.2 b fun q => by rw [q, hbL] at hb; cases hb).trans (b1 b o hb)
  have f2 : h2.FunFrames B (X.env :: X.outer) := Heap.FunFrames.sameBut hs2 hn2 f1
  have t2 := tracedZ_sameBut t1 hn1 hs2
  have hh2 : HandSPX.HeldZ B (X.env :: X.outer) a (Zc cls d) X.env.locals h2 := ⟨b2, b0, f2, t2⟩
  obtain ⟨oe, vs, T, oT, ts, he, hz, hd, h1', r⟩ := id t2
  unfold PySem.passOn
  refine wpAny_bind (wpAny_field he hd h1' ?_)
  rw [if_neg (show ¬ ((Value.ref T == Value.none) = true) from by simp)]
  have fin : wpAny (model X.prog X.w) A' (setFlight (.ref a) X.env.frame) (fun _ s4 => wpAny (model X.prog X.w) A' (throw (.ref a) : Sem Flow) (fun _ _ => False) (notedBy (model X.prog X.w) A' X.env (cameBackBy (model X.prog X.w) X.A X.env X.xe)) s4) (notedBy (model X.prog X.w) A' X.env (cameBackBy (model X.prog X.w) X.A X.env X.xe)) { s' with heap := h2, toks := s'.toks + 1 } := by
    rw [hf]
    refine HandSPX.setFlight_onZ (s := { s' with heap := h2, toks := s'.toks + 1 }) hh2 fun h3 hh3 up3 => wpAny_throw ?_
    show wpAny (model X.prog X.w) A' (noteFrame (.ref a) X.env) _ _ _
    refine HandSPX.againZ (s := { s' with heap := h3, toks := s'.toks + 1 }) hf hh3.2.2.2 ?_
    obtain ⟨oe3, vs3, T3, oT3, ts3, he3, hz3, hd3, h13, r3⟩ := id hh3.2.2.2
    show wpAny (model X.prog X.w) X.A (do
      if (← field (.ref a) 1) == .none then unsupported "frame.own-activation:exception-without-traceback"
      setFlight (.ref a) X.env.frame) _ _ _
    refine wpAny_bind (wpAny_field he3 hd3 h13 ?_)
    rw [if_neg (show ¬ ((Value.ref T3 == Value.none) = true) from by simp)]
    rw [hf]
    refine HandSPX.setFlight_onZ (s := { s' with heap := h3, toks := s'.toks + 1 }) hh3 fun h4 hh4 up4 => ?_
    -- the state without the exception
    obtain ⟨oL, es, ep, hoL, hdL, hkL, hfL⟩ := id hn2
    obtain ⟨oI, esI, epI, hoI, hdI, _⟩ := id hn
    have hfr0 : oL.isFreed = false := Obj.isFreed_of_dict hdL
    have gL : (sI.heap.update X.env.locals fun _ => oL).get? X.env.locals = some oL := Heap.get?_update_self (fun _ => oL) hoI hfr0
    have sb : Heap.SameBut X.env.locals sI.heap (sI.heap.update X.env.locals fun _ => oL) := Heap.SameBut.update _ _ _
    have J2 := inv_gone (t := sI.toks) J hN hi hlk (h' := sI.heap.update X.env.locals fun _ => oL) ⟨oL, es, ep, gL, hdL, hkL, hfL⟩ sb
    refine tk _ _ ⟨a, B, _, pins, σ.set i none, H, cls, d, rfl, J2, fun b o e hb => ?_, fun b o e hnf => ?_, .inr (.inr (by rw [hs]; exact hh4)), na, os, ag, w⟩
    · have nbL : b ≠ X.env.locals := fun z => hb (by rw [hs]; exact List.mem_filterMap.mpr ⟨X.env, List.mem_cons_self, by rw [hf, z]⟩)
      exact nb b o ((sb.2 b nbL).symm.trans e) hb
    · by_cases hb : b = X.env.locals
      · subst hb
        rw [show ({ sI with heap := sI.heap.update X.env.locals fun _ => oL, toks := sI.toks } : Shared).heap.get? X.env.locals = some oL from gL] at e
        cases e
        exact (up3.trans up4) _ oL hoL hnf
      · have e1 : sI.heap.get? b = some o := (sb.2 b hb).symm.trans e
        obtain ⟨sl, e2⟩ := (up.trans up1) b o e1 hnf
        have e3 : h2.get? b = some { o with slots := sl } := (hs2.2 b hb).trans e2
        obtain ⟨sl4, e4⟩ := (up3.trans up4) b _ e3 hnf
        exact ⟨sl4, e4⟩
  first
    | exact wpAny_bind (wpAny_pure (wpAny_bind fin))
    | exact wpAny_bind fin
end
section
variable {X : Cx} {x n : Str} {c : Value} {i : Nat} {body suite : List Stmt} {b₀ : Stmt} {np pos pos' : Pos} {tb : WX → TS} {ts : Addr → Value → Option Addr → TS} {Wout : WX}
theorem ps_try_asX (hs : X.stack = X.env :: X.outer) (hf : X.env.frame = some X.env.locals) (hN : X.N.Nodup) (hi : X.N[i]? = some n) (hln : X.env.kindOf n = some .local) (hc : Names X x c) (tk : L2.Takes X Wout)
    (hb : ∀ (W : WX) (pn : List (Addr × Obj)) (xe : Value → Shared → Prop), L2N.Takes (X.tr pn xe) W → L2.Takes (X.tr pn xe) (wPass X.K c Wout) → PassesOwn (model X.prog X.w) X.A X.env xe → PSs (X.tr pn xe) body (tb W))
    (hsu : ∀ (a : Addr) (oe : Obj) (cls : Value) (d : Option Addr) (pn : List (Addr × Obj)) (E : Value → Shared → Prop), L2N.Zn cls d oe → (∃ vs, oe.data = .fields vs) → L2.Takes (suiteY X a ((a, oe) :: pn) E) (fun cls d σ H => Wout cls d (σ.set i none) H) → Hot1 (suiteY X a ((a, oe) :: pn) E).A (a, oe) →
      PSs (suiteY X a ((a, oe) :: pn) E) (b₀ :: suite) (ts a cls d)) :
    PS X (.Try body [.ExceptHandler (some (.Name x np)) (some n) (b₀ :: suite) pos'] [] [] pos) (fun D σ H => tb (wAs X.K c i ts Wout D) D σ H) := by
  refine ⟨fun pins s σ H D I h => ?_⟩
  have ok := I.ok
  have hfr : X.A.frames = some (X.env :: X.outer) := by rw [ok.frames, hs]
  have hloc : Loc X.env.scope n := .inl hln
  have notFr : ∀ {B h : Heap} {a : Addr} {o : Obj} {vs : Array Value}, h.FunFrames B (X.env :: X.outer) → h.get? a = some o → o.data = .fields vs → a ∉ frs (X.env :: X.outer) := fun {B h a o vs} ff e dd hm => by
    obtain ⟨_, o', e', hnf⟩ := ff.mem hm
    rw [e] at e'; cases e'
    exact hnf _ dd
  have flyOn : ∀ {a : Addr} {B : Heap} {sI s' : Shared} {σ' : L2.St} {H' : Hp} {cls : Value} {d : Option Addr} {h3 : Heap}, Inv X pins σ' H' sI → (∀ b o, sI.heap.get? b = some o → b ∉ frs X.stack → B.get? b = some o) → sI.heap.UpToSlots h3 →
      HandSPX.FlyingZ B (X.env :: X.outer) a (Zc cls d) h3 → H' a = none → s'.os = sI.os → AllBare s'.gens → Wout cls d σ' H' → wpAny (model X.prog X.w) X.A (handleBy (.ref a) X.env []) (SP X pins D) X.xe { s' with heap := h3 } := by
    intro a B sI s' σ' H' cls d h3 J nb up fl3 na os ag w
    refine wpAny_handleBy_nil ?_
    obtain ⟨k1, k2, k3, oe, vs, T, oT, ts', he, hz, hd, h1, hr⟩ := id fl3
    unfold PySem.passOn
    refine wpAny_bind (wpAny_field he hd h1 ?_)
    rw [if_neg (show ¬ ((Value.ref T == Value.none) = true) from by simp)]
    have fin : wpAny (model X.prog X.w) X.A (setFlight (.ref a) X.env.frame) (fun _ s4 => wpAny (model X.prog X.w) X.A (throw (.ref a) : Sem Flow) (SP X pins D) X.xe s4) X.xe { s' with heap := h3 } := by
      rw [hf]
      refine HandSPX.setFlight_upZ fl3 fun h4 hh4 up4 => wpAny_throw (tk _ _ ?_)
      exact ⟨a, B, sI, pins, σ', H', cls, d, rfl, J, nb, up.trans up4, .inr (.inr (by rw [hs]; exact hh4)), na, os, ag, w⟩
    first
      | exact wpAny_bind (wpAny_pure (wpAny_bind fin))
      | exact wpAny_bind fin
  refine wpAny_Try_except ?_
  refine wpAny_mono ((hb (wAs X.K c i ts Wout D) (X.pn ++ pins) (fun e s₁ => wpAny (model X.prog X.w) X.A (noteFrame e X.env) (fun _ s₂ => wpAny (model X.prog X.w) X.A (setFlight e none) (fun _ s₃ =>
    wpAny (model X.prog X.w) X.A (handleBy e X.env [.ExceptHandler (some (.Name x np)) (some n) (b₀ :: suite) pos']) (SP X pins D) X.xe s₃) X.xe s₂) X.xe s₁) (fun u s' xx => ?_) (fun u s' xx => ?_) PassesOwn.looking).run [] s σ H D (I.toTry _) h) (fun f s1 hsp => ?_) (fun e s1 he => he)
  · obtain ⟨a, B, sI, pins', σ', H', cls, d, rfl, J', nb, up, sky, na, os, ag, b, hb1, hyes, hno⟩ := xx
    have J : Inv X pins σ' H' sI := J'.ofTry ok
    have sky' : Sky B (X.env :: X.outer) a (L2N.Zn cls d) X.env.locals s'.heap := by rw [← hs]; exact sky
    show wpAny (model X.prog X.w) X.A (noteFrame (.ref a) X.env) _ _ _
    refine L2N.Sky.land L2N.Zn.steady hfr hf sky' fun h3 fl3 up3 => ?_
    have J3 : Inv X pins σ' H' { s' with heap := h3 } := J.landed nb fl3.1 (up.trans up3) os ag
    obtain ⟨oe3, vs3, he3, hz3, hd3⟩ := fl3.there
    have nfr : a ∉ frs (X.env :: X.outer) := notFr fl3.2.2.1 he3 hd3
    have nL : a ≠ X.env.locals := fun z => nfr (List.mem_filterMap.mpr ⟨X.env, List.mem_cons_self, by rw [hf, z]⟩)
    have nF : a ∉ X.fs := fun hm => by
      obtain ⟨e, he, q⟩ := List.mem_filterMap.mp hm
      exact nfr (List.mem_filterMap.mpr ⟨e, List.mem_cons_of_mem _ he, q⟩)
    have S3 := J3.suite he3 hd3 na nL nF
    refine wpAny_handleBy_cons (codeAny_handlers_test ?_) (by intro q; cases q)
    have LT : PySem.W.Looks (model X.prog X.w) h3 (typeOf (.ref a)) cls := fun A Q E s k q => wpAny_typeOf_ref (k _ _ he3) (by rw [hz3.1]; exact q)
    have LM := PySem.W.exm_one (M := model X.prog X.w) (J3.kIn) LT hb1
    have test : ∀ {Q : Value → Shared → Prop} {E : Value → Shared → Prop}, Q c { s' with heap := h3 } → wpAny (model X.prog X.w) (X.A.mark (some (.ref a))) (eval (.Name x np) X.env) Q E { s' with heap := h3 } := fun {Q E} q => by
      obtain ⟨hg, hdbg, hm | ⟨hm, hv, hnn⟩⟩ := hc
      · exact ld_glob (X := X.suite a ((a, oe3) :: (X.pn ++ pins))) S3 hg hm q hdbg
      · exact ld_blt (X := X.suite a ((a, oe3) :: (X.pn ++ pins))) S3 hg hm hv q hnn hdbg
    refine test (LM.here ?_)
    cases b with
    | true =>
      refine codeAny_handlers_suite_as ?_
      refine HandSPX.lands_againZ fl3 fun h4 fl4 up4 => ?_
      have J4 : Inv X pins σ' H' { s' with heap := h4 } := J.landed nb fl4.1 ((up.trans up3).trans up4) os ag
      obtain ⟨oe4, vs4, he4, hz4, hd4⟩ := fl4.there
      have S4 := J4.suite he4 hd4 na nL nF
      let E5 : Value → Shared → Prop := fun u s3 => wpAny (model X.prog X.w) (X.A.mark (some (.ref a))) (noteFrame u X.env) (fun _ s₃' =>
        wpAny (model X.prog X.w) (X.A.mark (some (.ref a))) (do bindName X.env n .none; unbindBehindTheSuite X.env n pos')
          (fun _ s₄ => wpAny (model X.prog X.w) (X.A.mark (some (.ref a))) (PySem.passOn "try.except-as" u X.env : Sem Flow) (fun _ _ => False) (notedBy (model X.prog X.w) (X.A.mark (some (.ref a))) X.env (cameBackBy (model X.prog X.w) X.A X.env X.xe)) s₄)
          (fun y s₄ => wpAny (model X.prog X.w) (X.A.mark (some (.ref a))) (setFlight u none) (fun _ s₅ => (notedBy (model X.prog X.w) (X.A.mark (some (.ref a))) X.env (cameBackBy (model X.prog X.w) X.A X.env X.xe)) y s₅) (notedBy (model X.prog X.w) (X.A.mark (some (.ref a))) X.env (cameBackBy (model X.prog X.w) X.A X.env X.xe)) s₄) s₃') (notedBy (model X.prog X.w) (X.A.mark (some (.ref a))) X.env (cameBackBy (model X.prog X.w) X.A X.env X.xe)) s3
      have tkS : L2.Takes (suiteY X a ((a, oe4) :: (X.pn ++ pins)) E5) (fun cls d σ H => Wout cls d (σ.set i none) H) := fun u2 s2 x2 => by
        obtain ⟨a2, B2, sI2, pn2, σ2, H2, cls2, d2, e2, I2, nb2, up2, sky2, na2, os2, ag2, w2⟩ := x2
        exact as_out (A' := X.A.mark (some (.ref a))) hfr hs hf hN hi hln tk ⟨a2, B2, sI2, pins, σ2, H2, cls2, d2, e2, unsuiteY I2 ok, nb2, up2, sky2, na2, os2, ag2, w2⟩
      have hot : Hot1 (suiteY X a ((a, oe4) :: (X.pn ++ pins)) E5).A (a, oe4) := ⟨rfl, vs4, hd4, hz4.2.2 vs4 hd4⟩
      refine store_ok (X := X.suite a ((a, oe4) :: (X.pn ++ pins))) (v := .ref a) S4 hN hi hloc rfl (fun s5 S5 => ?_) (.inr hln)
      refine wpAny_mono ((hsu a oe4 cls d (X.pn ++ pins) E5 hz4 ⟨_, hd4⟩ tkS hot).run [] s5 _ H' _ (suiteY_of S5) (hyes rfl a na)) (fun f s6 hsp => ?_) (fun e6 s6 z => z)
      have end_ : ∀ {σ6 : L2.St} {H6 : Hp} {Q : Shared → Prop}, Inv (suiteY X a ((a, oe4) :: (X.pn ++ pins)) E5) [] σ6 H6 s6 → (∀ s7, Inv X pins (σ6.set i none) H6 s7 → Q s7) →
          wpAny (model X.prog X.w) X.A (do bindName X.env n .none; unbindBehindTheSuite X.env n pos') (fun _ s7 => Q s7) X.xe s6 := fun {σ6 H6 Q} S6 hq => gone_ok (unsuiteY S6 ok) hN hi hln hq
      cases f with
      | next =>
        obtain ⟨σ6, H6, S6, q6⟩ := hsp
        exact end_ S6 fun s7 J7 => ⟨_, _, J7, q6⟩
      | brk =>
        obtain ⟨σ6, H6, S6, q6⟩ := hsp
        exact end_ S6 fun s7 J7 => ⟨_, _, J7, q6⟩
      | cont =>
        obtain ⟨σ6, H6, S6, q6⟩ := hsp
        exact end_ S6 fun s7 J7 => ⟨_, _, J7, q6⟩
      | ret u =>
        obtain ⟨v6, σ6, H6, S6, r6, q6⟩ := hsp
        exact end_ S6 fun s7 J7 => ⟨_, _, _, J7, r6, q6⟩
    | false =>
      show wpAny _ X.A (handleBy (.ref a) X.env []) _ _ _
      exact flyOn J nb (up.trans up3) (flyingZ_imp (fun o z => z.zc) fl3) na os ag (hno rfl)
  · obtain ⟨a, B, sI, pins', σ', H', cls, d, rfl, J', nb, up, sky, na, os, ag, hb1, hno⟩ := xx
    have J : Inv X pins σ' H' sI := J'.ofTry ok
    have sky' : Sky B (X.env :: X.outer) a (Zc cls d) X.env.locals s'.heap := by rw [← hs]; exact sky
    show wpAny (model X.prog X.w) X.A (noteFrame (.ref a) X.env) _ _ _
    refine L2.Sky.land Zc.steady hfr hf sky' fun h3 fl3 up3 => ?_
    have J3 : Inv X pins σ' H' { s' with heap := h3 } := J.landed nb fl3.1 (up.trans up3) os ag
    obtain ⟨oe3, vs3, he3, hz3, hd3⟩ := fl3.there
    have nfr : a ∉ frs (X.env :: X.outer) := notFr fl3.2.2.1 he3 hd3
    have nL : a ≠ X.env.locals := fun z => nfr (List.mem_filterMap.mpr ⟨X.env, List.mem_cons_self, by rw [hf, z]⟩)
    have nF : a ∉ X.fs := fun hm => by
      obtain ⟨e, he, q⟩ := List.mem_filterMap.mp hm
      exact nfr (List.mem_filterMap.mpr ⟨e, List.mem_cons_of_mem _ he, q⟩)
    have S3 := J3.suite he3 hd3 na nL nF
    refine wpAny_handleBy_cons (codeAny_handlers_test ?_) (by intro q; cases q)
    have LT : PySem.W.Looks (model X.prog X.w) h3 (typeOf (.ref a)) cls := fun A Q E s k q => wpAny_typeOf_ref (k _ _ he3) (by rw [hz3.1]; exact q)
    have LM := PySem.W.exm_one (M := model X.prog X.w) (J3.kIn) LT hb1
    have test : ∀ {Q : Value → Shared → Prop} {E : Value → Shared → Prop}, Q c { s' with heap := h3 } → wpAny (model X.prog X.w) (X.A.mark (some (.ref a))) (eval (.Name x np) X.env) Q E { s' with heap := h3 } := fun {Q E} q => by
      obtain ⟨hg, hdbg, hm | ⟨hm, hv, hnn⟩⟩ := hc
      · exact ld_glob (X := X.suite a ((a, oe3) :: (X.pn ++ pins))) S3 hg hm q hdbg
      · exact ld_blt (X := X.suite a ((a, oe3) :: (X.pn ++ pins))) S3 hg hm hv q hnn hdbg
    refine test (LM.here ?_)
    show wpAny _ X.A (handleBy (.ref a) X.env []) _ _ _
    exact flyOn J nb (up.trans up3) fl3 na os ag hno
  · cases f with
    | next =>
      obtain ⟨σ', H', J', q⟩ := hsp
      exact wpAny_execs_nil ⟨σ', H', J'.ofTry ok, q⟩
    | brk =>
      obtain ⟨σ', H', J', q⟩ := hsp
      exact ⟨σ', H', J'.ofTry ok, q⟩
    | cont =>
      obtain ⟨σ', H', J', q⟩ := hsp
      exact ⟨σ', H', J'.ofTry ok, q⟩
    | ret u =>
      obtain ⟨v, σ', H', J', r, q⟩ := hsp
      exact ⟨v, σ', H', J'.ofTry ok, r, q⟩
end
end DL
set_option maxHeartbeats 2000000
/-! The data layer, part H3: a division by nought that becomes a refusal of the program's own. -/
namespace DL
open PySem PySem.Spec PyProof.Rows HotX L2 L2H
theorem divmod_zero {prog : Program} {w : World} {A : Around} {E : Value → Shared → Prop} {s : Shared} {a b : Int} {t u : Tok} {Q : Value → Shared → Prop} (hb : b = 0) (hA : A.handled = none)
    (h : ∀ h' tk e, Heap.NewExc s.heap h' e "ZeroDivisionError" → E (.ref e) { s with heap := h', toks := tk }) : wpAny (model prog w) A (call (.builtin "divmod") [.int a t, .int b u]) Q E s := by
  refine Calls.call_function_entry kind_divmodT plain_divmodT entry_divmodT (args_divmod2 _ _) ?_
  unfold Builtin.«divmod»
  refine wpAny_bind (m := someArgs "divmod" 2 2 _) (wpAny_pure ?_)
  show wpAny _ _ (do ret (← Builtin.Builtins.binaryNamed "divmod()" "divmod" (.int a t) (.int b u))) _ _ s
  exact wpAny_bind (binaryNamed_same (nm := "divmod") (T := "int") (id := "int.__divmod__") (typeIs_int s a t) (typeIs_int s b u) fills_int_divmod slot_int_divmod
    (call_meets slot_int_divmod (typeIs_int s a t) entry_int_divmod (args_int_divmod _ _) (AutoIntR1.int___divmod___int_int_0 a t b u (by simp [hb])) ⟨hA, h⟩))
section
variable {X : Cx} {W : WX} {ta : TA} {a b : Expr} {p pos : Pos}
theorem pe_divmodZ (hc : X.calm = true) (tk : L2N.Takes X W) (hg : Gl X "divmod") (hm : X.mg "divmod" = none) (ha : PA X [a, b] ta)
    (he : starEach [a, b] X.env = (false, eval a X.env) :: starEach [b] X.env := by rfl) (hpl : (backTo pos (starEach [b] X.env)).any (·.1) = false := by rfl) :
    PE X (.Call (.Name "divmod" p) [a, b] [] pos) (fun σ H Q => ta σ H fun vs H1 => ∃ i j, vs = [.int i, .int j] ∧ j = 0 ∧ ∀ d, W (.type "ZeroDivisionError") d σ H1) := by
  refine ⟨fun pins s σ H Q I h => ?_⟩
  refine wpAny_Call_Name_kw (ld_blt (u := .builtin "divmod") I hg hm (by decide +kernel) ?_ (by decide) (by decide))
  refine PyProof.Rows.callWith_builtin1 (thn (ha.run pos pins s σ H _ I h) fun us s1 ⟨vs, H1, I1, r1, i, j, e, j0, q⟩ => ?_) he hpl
  subst e
  obtain ⟨u, w', rfl, ⟨t, rfl⟩, ⟨t', rfl⟩⟩ := vals2 r1
  exact divmod_zero j0 (I1.ok.hd hc) fun h' tk' e hx => L2N.takes_newN (t' := tk') tk I1 hx q
end
/-! ### an exception made while one is handled -/
def wMk5 (X : Cx) (e : Expr) : L2.St → Hp → XK → Prop := fun σ H Q => ∀ pins s, Inv X pins σ H s → wpAny (model X.prog X.w) X.A (eval e X.env) (fun u s' => L2N.MkP X pins σ Q u s' ∧ Six u s') X.xe s
theorem pmk5_w {X : Cx} {e : Expr} : PMk5 X e (wMk5 X e) := fun pins s σ H Q I h => h pins s I
theorem toMk5 {X : Cx} {e : Expr} {t : L2.St → Hp → XK → Prop} {σ : L2.St} {H : Hp} {Q : XK} (p : PMk5 X e t) (q : t σ H Q) : wMk5 X e σ H Q := fun pins s I => p pins s σ H Q I q
def MV5 (X : Cx) (e : Expr) (ss ts : List Slot) (Ψ : List Slot → XD → Prop) : Prop :=
  ∀ m B σ tv H Q, Low m ts.length → Held X.K m B H σ ss tv ts → (∀ ss' x cls d H', Ψ ss' x → ExcAt X.K H' cls d x → Held X.K m B H' σ ss' tv ts → Q cls d H') → wMk5 X e σ H Q
/-- an own exception class with an __init__ of its own, made while one is handled -/
structure ExH (P : Program) (w : World) (K : PySem.W.Frag) (mg : Str → Option Value) (base : Heap) (x : Str) (C : Addr) (ps : List Str) (sp : L2.Sp) : Prop where
  ox : OexC K C
  nm : mg x = some (.ref C)
  ini : ∃ (fI : Addr) (fd : FuncData), PySem.W.findIn K (.ref C) "__init__" = some (some (.ref fI)) ∧ PySem.W.typeIn K (.ref fI) = some (.type "function") ∧ FnH P w K mg base CX0 1 fI fd ps sp ∧ Binds K fd ps []
section
variable {X : Cx} {ss ts : List Slot} {e : Expr} {p pos : Pos} {x f : Str} {C : Addr} {ps : List Str}
theorem mk_one5 {Ψ : List Slot → XD → Prop} (T : ExH X.prog X.w X.K X.mg X.base x C ps (spF1 X.K f)) (hr : RoomH 2 X.A) (hot : HotC X) (hno : PySem.W.findIn X.K (.ref C) f = some none)
    (h : EV X e ss ts fun s r => d1K (fun d => d.flat = true ∧ Ψ s ⟨C, [f], [d]⟩) r) (hg : Gl X x := by rfl) (hdb : (x == ("__debug__" : Str)) = false := by decide)
    (he : starEach [e] X.env = (false, eval e X.env) :: starEach [] X.env := by rfl) (hpl : (backTo pos (starEach [] X.env)).any (·.1) = false := by rfl) : MV5 X (.Call (.Name x p) [e] [] pos) ss ts Ψ := fun m B σ tv H Q hm hh k => by
  obtain ⟨fI, fd, i1, i2, i3, i4⟩ := T.ini
  refine toMk5 (pmk5_oexH T.ox i1 i2 i3 hr hot i4 pass0 hg T.nm (pa_cons pe_w pa_nil he) hdb he hpl) ?_
  refine h m B σ tv H _ hm hh fun s1 r1 v H1 h1 hh1 => ?_
  obtain ⟨d, id, fl, q⟩ := d1K_of h1
  refine ⟨by show 1 ≤ 1000; decide, fun a na => ⟨a, C, v, rfl, T.ox, hno, upd_same, fun dx nd ne => ⟨rfl, dx, [(f, v)], upd_same, ?_, ?_, ?_⟩⟩⟩
  · rw [upd_ne ne, upd_same]
  · rw [upd_ne ne] at nd
    exact nd
  · rw [upd_ne ne] at nd
    rw [mk_heap na nd ne]
    have ex : Ex H1 (upd H1 dx (.xd [(f, v)])) := Ex.new nd
    refine k s1 ⟨C, [f], [d]⟩ _ _ _ q ⟨rfl, by rw [D.flats_cons, fl]; unfold D.flats; rfl, [(f, v)], .inr ⟨dx, rfl, upd_same⟩, rfl, reps_cons ((hh1.top id).mono ex) reps_nil⟩ ((hh1.pop hm).ex ex)
end
/-! ### try: target = divmod(a, 0) except C as n: raise .. from n -/
section
variable {X : Cx} {B : Hp} {fx : List Nat} {ss ts : List Slot} {a b tg ce : Expr} {E : DE} {R : XD → List Slot → Prop} {i : Nat} {x n : Str} {c : Value} {np cp p p2 p3 p4 pos' pos : Pos}
theorem s1x_tryZ (hc : X.calm = true) (hs : X.stack = X.env :: X.outer) (hf : X.env.frame = some X.env.locals) (hN : X.N.Nodup) (hi : X.N[i]? = some n) (hln : X.env.kindOf n = some .local) (hcn : Names X x c)
    (hcz : PySem.W.exmOne X.K (.type "ZeroDivisionError") c = some true) (hrz : Raises X (.type "ZeroDivisionError")) (hfx : i ∉ fx) (hmd : X.mg "divmod" = none)
    (h : ∀ pn xe, EV (X.tr pn xe) a ss ts fun s1 r1 => EV (X.tr pn xe) b s1 (r1 :: ts) fun s r2 => i2K (fun _ j => j = 0 ∧ s[i]? = some .no ∧ ∀ a oe pn E, Hot1 (suiteY X a ((a, oe) :: pn) E).A (a, oe) → MV5 (suiteY X a ((a, oe) :: pn) E) ce s ts fun s' y => s'[i]? = some .no ∧ R y s') r1 r2)
    (hgd : Gl X "divmod" := by rfl) (hdb : (n == ("__debug__" : Str)) = false := by decide)
    (he : starEach [a, b] X.env = (false, eval a X.env) :: starEach [b] X.env := by rfl) (he2 : starEach [b] X.env = (false, eval b X.env) :: starEach [] X.env := by rfl) (hpl : (backTo p2 (starEach [b] X.env)).any (·.1) = false := by rfl)
    (hsw : swapsWithSole [tg] (.Call (.Name "divmod" p) [a, b] [] p2) p3.line X.env = pure false := by rfl) (hw : swappedStores [tg] (.Call (.Name "divmod" p) [a, b] [] p2) X.env = pure none := by rfl) (h1 : (assignEach [tg] X.env).map (·.2) = [assign tg X.env] := by rfl) :
    S1X X B fx (.Try [.Assign [tg] (.Call (.Name "divmod" p) [a, b] [] p2) p3] [.ExceptHandler (some (.Name x np)) (some n) [.Raise (some ce) (some (.Name n cp)) p4] pos'] [] [] pos) ss ts E R := fun σ tv H D hh k xt => by
  refine toS (ps_try_asX (Wout := WR X.K B fx σ tv ts R) (tb := fun W D σ H => ∀ pn xe, L2N.Takes (X.tr pn xe) W → wSs (X.tr pn xe) [.Assign [tg] (.Call (.Name "divmod" p) [a, b] [] p2) p3] D σ H)
    (ts := fun a cls d D σ1 H => ∀ oe pn E, L2N.Zn cls d oe → L2.Takes (suiteY X a ((a, oe) :: pn) E) (fun cls d σ' H => WR X.K B fx σ tv ts R cls d (σ'.set i none) H) → Hot1 (suiteY X a ((a, oe) :: pn) E).A (a, oe) → wSs (suiteY X a ((a, oe) :: pn) E) [.Raise (some ce) (some (.Name n cp)) p4] D σ1 H) hs hf hN hi hln hcn xt.tk
    (fun W pn xe t1 t2 t3 => ⟨fun pins s σ H D I h => pss_w.run pins s σ H D I (h pn xe t1)⟩) (fun a oe cls d pn E z1 z2 z3 z4 => ⟨fun pins s σ H D I h => pss_w.run pins s σ H D I (h oe pn E z1 z3 z4)⟩)) ?_
  intro pn xe t1
  refine toSs (pss_one (ps_asg (pe_divmodZ (X := X.tr pn xe) hc t1 hgd hmd (pa_cons pe_w (pa_cons pe_w pa_nil he2) he) he hpl) pg_w hsw hw h1)) ?_
  refine h pn xe (fun k => k < ts.length) B σ tv H _ Low.self hh fun s1 r1 v H1 q1 hh1 => ?_
  refine q1 (fun k => k < ts.length) B σ (v :: tv) H1 _ Low.self.up hh1 fun s r2 v2 H2 q2 hh2 => ?_
  obtain ⟨i', j', rfl, rfl, j0, no, q⟩ := i2K_of q2
  have e1 : v = .int i' := rep_int.mp (hh2.top2 Slot.is_own)
  have e2 : v2 = .int j' := rep_int.mp (hh2.top Slot.is_own)
  subst e1 e2
  refine ⟨i', j', rfl, j0, fun d => ⟨true, hcz, fun _ a na oe pn2 E2 zn tk hot => ?_, fun z => nomatch z⟩⟩
  have hh3 := (hh2.pop Low.self.up).pop Low.self
  have hh4 : Held X.K (fun k => k < ts.length) B H2 (σ.set i (some (.ref a))) s tv ts := held_no hh3 no
  have iσ : i < σ.length := by
    obtain ⟨_, hh3⟩ := hh3
    have := hh3.slen
    rw [this]
    exact (List.getElem?_eq_some_iff.mp no).1
  refine toSs (pss_one (ps_raiseHF hot List.mem_cons_self (by show Raises X oe.cls; rw [zn.1]; exact hrz) hi hln tk pmk5_w hdb)) ⟨List.getElem?_set_self iσ, ?_⟩
  refine q a oe pn2 E2 hot (fun k => k < ts.length) B _ tv H2 _ Low.self hh4 fun s' y cls d' H' ⟨no2, ry⟩ xa h' => ?_
  refine ⟨y, s', ry, xa, fun j hj => ?_, ?_⟩
  · have nj : i ≠ j := fun z => hfx (by rw [z]; exact hj)
    rw [List.getElem?_set_ne nj, List.getElem?_set_ne nj]
  · have h2 := held_no (i := i) (y := none) h' no2
    exact h2.less (fun _ _ q => q) Low.self h2.vok
end
end DL
set_option maxHeartbeats 2000000
/-! The data layer, part H4: the __init__ of a refusal with a field. -/
namespace DL
open PySem PySem.Spec PyProof.Rows HotX L2 L2H
def clsBody (s : Stmt) : List Stmt := match s with
  | .ClassDef _ _ _ b _ _ _ _ _ _ _ => b
  | _ => []
def methOf (s : Stmt) (i : Nat) : Stmt := (clsBody s).getD i (.Pass ⟨0, 0, 0, 0⟩)
section
variable {X : Cx} {B : Addr} {f g msg : Str} {j : Nat} {p1 p2 p3 p4 p5 p6 p7 p8 p9 p10 : Pos}
theorem init1_body (T : BIn X.K X.mg "SlackError" B) (hc : ∀ env : Env, eval (.Call (.Attribute (.Name ("SlackError" : Str) p1) ("__init__" : Str) p2) [.Name ("self" : Str) p3, .Constant (.str msg) j p4] [] p5) env = (do
      let ov ← eval (.Name ("SlackError" : Str) p1) env
      standAt p2.atName
      let (f, first) ← holding [ov] (getMethod ov ("__init__" : Str) (do return (← importBound (.Name ("SlackError" : Str) p1) env).getD true))
      callWith p5 f first (backTo p5 (starEach [.Name ("self" : Str) p3, .Constant (.str msg) j p4] env)) (backToKw p5 (keywordEach [] env)))) (h0 : X.N[0]? = some ("self" : Str)) (h1 : X.N[1]? = some g) (v0 : Vis X.env.scope "self") (v1 : Vis X.env.scope g) (hg : Gl X "SlackError") (hd : (g == ("__debug__" : Str)) = false) (hcd : (g == ("__classdict__" : Str)) = false) (hl : X.N.length = 2) :
    ∃ t, PSs X [.Expr (.Call (.Attribute (.Name "SlackError" p1) "__init__" p2) [.Name "self" p3, .Constant (.str msg) j p4] [] p5) p6, .Assign [.Attribute (.Name "self" p7) f p8] (.Name g p9) p10] t ∧
      ∀ (vs : List V) (H : Hp) (Q : VK) (E : XK), spF1 X.K f vs H Q E → t { nx := fun _ H' => Q .non H', rt := Q } (L2.start X.N vs) H := by
  refine ⟨_, pss_cons (ps_expr (pe_binit T (pa_cons (pe_var h0 v0) (pa_cons pe_str pa_nil)) hg (hc := hc X.env))) (pss_one (ps_ost (pe_var h0 v0) (pe_var h1 v1 hd hcd))), ?_⟩
  rintro vs H Q E ⟨a, C, v, rfl, oc, hno, ha, q⟩
  have st : L2.start X.N [.ref a, v] = [some (.ref a), some v] := by
    unfold L2.start
    rw [hl]
    rfl
  rw [st]
  refine ⟨.ref a, rfl, a, C, [.str msg], rfl, by show 1 ≤ 1000; decide, oc, ha, ?_⟩
  refine ⟨v, rfl, .ref a, rfl, a, C, rfl, oc, hno, .inl ⟨ha, fun dx nd ne => ?_⟩⟩
  exact q dx nd ne
end
section
variable {P : Program} {w : World} {K : PySem.W.Frag} {mg : Str → Option Value} {base : Heap}
theorem funD_okH {x qual : Str} {params : Arguments} {body : List Stmt} {scope : Scope} {dvs : List V} {kws : List (Str × V)} {f : Addr} {fd : FuncData} {CX : CXT} {N ps : List Str} {k : Nat} {sp : L2.Sp} (F : FunD K x qual params body scope dvs kws f fd) (S : FnScope N ps scope) (len : ∀ vs H Q E, sp vs H Q E → vs.length = ps.length)
    (hbody : ∀ (cdv : Value) (A : Around) (outer : List Env) (s : Shared) (H : Hp) (vs : List V) (Q : VK) (E : XK) (p : Addr × Obj), Hot1 A p → RoomH k (A.deeper (envOfC qual scope s.heap.objs.size f cdv)) → sp vs H Q E →
      ∃ t, PSs (cxH CX P w K mg base N qual scope f cdv A outer s H E p) body t ∧ t { nx := fun _ H' => Q .non H', rt := Q } (L2.start N vs) H) : FnH P w K mg base CX (k + 1) f fd ps sp := by
  obtain ⟨oc, od, dV, kV, doc, pm, an, cdv, ct, osl, rfl, lk, hcd, _, _⟩ := F.ex
  exact fn_ofH lk hcd S len fun A outer s H vs Q E p hot hr hsp => hbody cdv A outer s H vs Q E p hot hr hsp
/-- such an __init__, in the open and while an exception is handled -/
theorem init1_ok {qual : Str} {st : Stmt} {f : Addr} {fd : FuncData} {fl g msg : Str} {B : Addr} {j : Nat} {p1 p2 p3 p4 p5 p6 p7 p8 p9 p10 : Pos} (Fn : FunD K "__init__" qual (defArgs st) (defBody st) (defScope st) [] [] f fd) (S : FnScope ["self", g] ["self", g] (defScope st)) (T : BIn K mg "SlackError" B)
    (hb : defBody st = [.Expr (.Call (.Attribute (.Name "SlackError" p1) "__init__" p2) [.Name "self" p3, .Constant (.str msg) j p4] [] p5) p6, .Assign [.Attribute (.Name "self" p7) fl p8] (.Name g p9) p10])
    (hc : ∀ env : Env, eval (.Call (.Attribute (.Name ("SlackError" : Str) p1) ("__init__" : Str) p2) [.Name ("self" : Str) p3, .Constant (.str msg) j p4] [] p5) env = (do
      let ov ← eval (.Name ("SlackError" : Str) p1) env
      standAt p2.atName
      let (f, first) ← holding [ov] (getMethod ov ("__init__" : Str) (do return (← importBound (.Name ("SlackError" : Str) p1) env).getD true))
      callWith p5 f first (backTo p5 (starEach [.Name ("self" : Str) p3, .Constant (.str msg) j p4] env)) (backToKw p5 (keywordEach [] env))) := by intro env; rfl)
    (v0 : Vis (defScope st) "self" := by exact .inl rfl) (v1 : Vis (defScope st) g := by exact .inl rfl) (hg : (defScope st).names.lookup ("SlackError" : Str) = some NameKind.globalImplicit := by rfl) (hd : (g == ("__debug__" : Str)) = false := by decide) (hcd : (g == ("__classdict__" : Str)) = false := by decide) :
    FnOk P w K mg base CX0 1 f fd ["self", g] (spF1 K fl) ∧ FnH P w K mg base CX0 1 f fd ["self", g] (spF1 K fl) := by
  refine ⟨Fn.ok S (fun vs H Q E ⟨_, _, _, e, _⟩ => by rw [e]; rfl) fun cdv A outer s H vs Q E hr hsp => ?_, funD_okH Fn S (fun vs H Q E ⟨_, _, _, e, _⟩ => by rw [e]; rfl) fun cdv A outer s H vs Q E p hot hr hsp => ?_⟩
  · rw [hb]
    obtain ⟨t, h1, h2⟩ := init1_body (X := cxOf CX0 P w K mg base ["self", g] qual (defScope st) f cdv A outer s H E) (msg := msg) (f := fl) (j := j) (p1 := p1) (p2 := p2) (p3 := p3) (p4 := p4) (p5 := p5) (p6 := p6) (p7 := p7) (p8 := p8) (p9 := p9) (p10 := p10) T hc rfl rfl v0 v1 hg hd hcd rfl
    exact ⟨t, h1, h2 vs H Q E hsp⟩
  · rw [hb]
    obtain ⟨t, h1, h2⟩ := init1_body (X := cxH CX0 P w K mg base ["self", g] qual (defScope st) f cdv A outer s H E p) (msg := msg) (f := fl) (j := j) (p1 := p1) (p2 := p2) (p3 := p3) (p4 := p4) (p5 := p5) (p6 := p6) (p7 := p7) (p8 := p8) (p9 := p9) (p10 := p10) T hc rfl rfl v0 v1 hg hd hcd rfl
    exact ⟨t, h1, h2 vs H Q E hsp⟩
end
end DL
/-! The data layer, part T1: instances: made, their fields, their methods. -/
namespace DL
open PySem PySem.Spec PyProof.Rows L2
theorem putF_new {f : Str} {y : V} : ∀ {fs : List (Str × V)}, f ∉ fs.map (·.1) → putF f y fs = fs ++ [(f, y)]
  | [], _ => rfl
  | (g, x) :: fs, h => by
    have n : g ≠ f := fun z => h (by rw [z]; exact List.mem_cons_self)
    unfold putF
    rw [if_neg n, putF_new fun z => h (List.mem_cons_of_mem _ z)]
    rfl
section
variable {X : Cx} {fx : List Nat} {ss ts : List Slot} {Φ : List Slot → Slot → Prop} {e o : Expr} {es : List Expr} {pos p p' px apos : Pos} {x y f m : Str} {E : DE} {C : Addr}
/-- self.f = e: a new field of the instance in slot i -/
theorem s1_fld {i : Nat} {ns : List Str} {l0 : List D} (hN : X.N[i]? = some x) (hv : Vis X.env.scope x) (c : Cls X.K C) (n : NoAttr X.K C f) (hn : f ∉ ns) (hl0 : ns.length < 1000)
    (h : EV X e ss ts fun s r => ∃ l d, s[i]? = some (.own (.ins C ns l)) ∧ r = .own d ∧ noView (.v i) ts = true ∧ E.nx ((s.map (kill (.v i))).set i (.own (.ins C (ns ++ [f]) (l ++ [d])))))
    (hd : (x == ("__debug__" : Str)) = false := by decide) (hcd : (x == ("__classdict__" : Str)) = false := by decide) (hs : swapsWith e (some (.Attribute (.Name x px) f p')) pos.line X.env = pure false := by rfl) : S1 X fx (.Assign [.Attribute (.Name x px) f p'] e pos) ss ts E := fun B σ tv H D hh k => by
  refine toS (ps_fld (pe_var hN hv hd hcd) pe_w hs) ?_
  refine h (fun k => k < ts.length) B σ tv H _ Low.self hh fun s r v H1 ⟨l, d, hi, er, hv1, q⟩ ⟨fp1, h1⟩ => ?_
  subst er
  obtain ⟨fp2, F2, h2, s2, r2, n2, o2, b2, _⟩ := h1.take Low.self
  obtain ⟨w, e1, e2⟩ := h2.var i _ hi
  unfold RepO at e2
  obtain ⟨a, dx, fs, G, rfl, ea, ed, en, eF, rl⟩ := e2
  have ex : σ[i]? = some (some (.ref a)) := by
    cases z : σ[i]? with
    | none => rw [z] at e1; cases e1
    | some y => rw [z] at e1; have z2 : y = some (.ref a) := e1; rw [z2]
  have lf : fs.length = ns.length := by rw [← en, List.length_map]
  refine ⟨.ref a, ex, a, C, dx, fs, rfl, ea, c, n, by omega, ?_⟩
  rw [putF_new (by rw [en]; exact hn)]
  have nd := h2.nod (.v i)
  rw [eF] at nd
  have nd1 := List.nodup_cons.mp nd
  have nd2 := List.nodup_cons.mp nd1.2
  have tk : TK H1 (upd H1 a (.ins C dx (fs ++ [(f, v)]))) := TK.upd ea fun z => z
  have ha : ∀ b, b ∈ G ++ F2 → b ≠ a := fun b hb z => by
    subst z
    rcases List.mem_append.mp hb with hb | hb
    · exact nd1.1 (List.mem_cons_of_mem _ hb)
    · exact o2 b hb (.v i) (by rw [eF]; exact List.mem_cons_self)
  have dxa : dx ≠ a := fun z => nd1.1 (by rw [z]; exact List.mem_cons_self)
  have h3 := h2.change (v := .ref a) (F' := a :: dx :: (G ++ F2)) (d' := .ins C (ns ++ [f]) (l ++ [d])) (by rw [ex]; rfl) (getElem?_lt hi) tk (fun b o hb e => by
      rw [upd_ne (fun z => hb (by rw [z, eF]; exact List.mem_cons_self))]
      exact e) (by
      unfold RepO
      refine ⟨a, dx, fs ++ [(f, v)], G ++ F2, rfl, upd_same, by rw [upd_ne dxa]; exact ed, by rw [List.map_append, en]; rfl, rfl, ?_⟩
      rw [List.map_append]
      exact (rl.frame tk fun b hb => upd_ne (ha b (List.mem_append_left _ hb))).append (RepOs.one (r2.frame tk fun b hb => upd_ne (ha b (List.mem_append_right _ hb))))) (by
      refine List.nodup_cons.mpr ⟨fun z => ?_, List.nodup_cons.mpr ⟨fun z => ?_, List.nodup_append.mpr ⟨nd2.2, n2, fun b hb c hc z => ?_⟩⟩⟩
      · rcases List.mem_cons.mp z with z | z
        · exact dxa z.symm
        · exact ha a z rfl
      · rcases List.mem_append.mp z with z | z
        · exact nd2.1 z
        · exact o2 dx z (.v i) (by rw [eF]; exact List.mem_cons_of_mem _ List.mem_cons_self)
      · subst z
        exact o2 b hc (.v i) (by rw [eF]; exact List.mem_cons_of_mem _ (List.mem_cons_of_mem _ hb))) (fun b hb => by
      rw [eF]
      rcases List.mem_cons.mp hb with rfl | hb
      · exact .inl List.mem_cons_self
      · rcases List.mem_cons.mp hb with rfl | hb
        · exact .inl (List.mem_cons_of_mem _ List.mem_cons_self)
        · rcases List.mem_append.mp hb with hb | hb
          · exact .inl (List.mem_cons_of_mem _ (List.mem_cons_of_mem _ hb))
          · exact .inr ⟨o2 b hb, b2 b hb⟩) hv1
  exact k.nx _ σ _ q ⟨_, h3⟩ fun _ _ => rfl
end
/-- a method as callers see it -/
structure MethAt (P : Program) (w : World) (K : PySem.W.Frag) (mg : Str → Option Value) (base : Heap) (k : Nat) (C : Addr) (m : Str) (ps : List Str) (f : Addr) (fd : FuncData) (dds : List D) (F : List D → (D → Prop) → Prop) : Prop where
  ok : FnOk P w K mg base CX0 k f fd ps (spP K F)
  cl : Cls K C
  me : Meth K C m f
  bd : ∃ (dvs : List V) (dfl : List Value), Binds K fd ps dfl ∧ Vals dvs dfl ∧ ∀ H, RepRs K H dds dvs
/-- a class as callers see it: its __init__ changes the new instance alone -/
structure MakeAt (P : Program) (w : World) (K : PySem.W.Frag) (mg : Str → Option Value) (base : Heap) (k : Nat) (x : Str) (C : Addr) (ps : List Str) (f : Addr) (fd : FuncData) (F : D → List D → (D → D → Prop) → Prop) : Prop where
  ok : FnOk P w K mg base CX0 k f fd ps (spI K F)
  mkr : Mk K C f
  nm : mg x = some (.ref C)
  bd : Binds K fd ps []
theorem held_self {K : PySem.W.Frag} {H : Hp} {C x dx : Addr} {ds : List D} {vs : List V} (h : RepRs K H ds vs) (n1 : H x = none) (n2 : H dx = none) (ne : dx ≠ x) : Held K (fun k => k < 0) H (upd (upd H dx (.own x)) x (.ins C dx [])) ((V.ref x :: vs).map some) (.own (.ins C [] []) :: ds.map Slot.par) [] [] := by
  have e1 : Ex H (upd (upd H dx (.own x)) x (.ins C dx [])) := (Ex.new n2).trans (Ex.new (by rw [upd_ne (Ne.symm ne)]; exact n1))
  refine ⟨fun o => if o = .v 0 then [x, dx] else [], e1, by simp [h.length], rfl, Low.self, fun i s e => ?_, (fun k s e => by simp at e), fun o o' a h1 h2 => ?_, fun o => ?_, fun o a h1 => ?_, fun o a h1 => ?_⟩
  · cases i with
    | zero =>
      cases e
      refine ⟨.ref x, rfl, ?_⟩
      show RepO K _ _ _ (if (Own.v 0 = Own.v 0) then [x, dx] else [])
      rw [if_pos rfl]
      unfold RepO
      exact ⟨x, dx, [], [], rfl, upd_same, by rw [upd_ne ne, upd_same], rfl, rfl, by unfold RepOs; exact ⟨rfl, rfl⟩⟩
    | succ i =>
      rw [List.getElem?_cons_succ, List.getElem?_map] at e
      cases q : ds[i]? with
      | none => rw [q] at e; cases e
      | some d =>
        rw [q] at e
        have e2 : Slot.par d = s := Option.some.inj e
        subst e2
        obtain ⟨w, e3, e4⟩ := h.get q
        refine ⟨w, ?_, e4⟩
        rw [List.getElem?_map, List.getElem?_cons_succ, e3]
        rfl
  · by_cases c1 : o = .v 0
    · by_cases c2 : o' = .v 0
      · rw [c1, c2]
      · rw [if_neg c2] at h2; cases h2
    · rw [if_neg c1] at h1; cases h1
  · split
    · simp only [List.nodup_cons, List.mem_singleton, List.not_mem_nil, not_false_eq_true, List.nodup_nil, and_true]
      exact Ne.symm ne
    · exact List.nodup_nil
  · split at h1
    · rcases List.mem_cons.mp h1 with rfl | h1
      · exact n1
      · rw [List.mem_singleton.mp h1]; exact n2
    · cases h1
  · split at h1
    · rcases List.mem_cons.mp h1 with rfl | h1
      · exact ⟨_, upd_same, fun z => z⟩
      · rw [List.mem_singleton.mp h1]
        exact ⟨.own x, by rw [upd_ne ne, upd_same], fun z => z⟩
    · cases h1
section
variable {X : Cx} {fx : List Nat} {ss ts : List Slot} {Φ : List Slot → Slot → Prop} {e o : Expr} {es : List Expr} {pos p p' px apos : Pos} {x y f m : Str} {E : DE} {C : Addr} {k j : Nat} {ps : List Str} {fa : Addr} {fd : FuncData} {dds : List D}
/-- C(e, ..) -/
theorem cMake {F : D → List D → (D → D → Prop) → Prop} (M : MakeAt X.prog X.w X.K X.mg X.base k x C ps fa fd F) (hr : Room j X.A) (hj : k + 1 ≤ j)
    (h : AV X (e :: es) ss ts fun s rs => allK rs fun ds => F (.ins C [] []) ds fun d' d => d = .non ∧ Φ s (.own d')) (hg : Gl X x := by rfl)
    (hdb : (x == ("__debug__" : Str)) = false := by decide) (he : starEach (e :: es) X.env = (false, eval e X.env) :: starEach es X.env := by rfl) (hpl : (backTo pos (starEach es X.env)).any (·.1) = false := by rfl) : EV X (.Call (.Name x p) (e :: es) [] pos) ss ts Φ := fun m B σ tv H Q hm hh kk => by
  refine toE (pe_make (dvs := []) M.mkr M.ok (hr.mono hj) hg M.nm M.bd .nil pass0 pa_w hdb he hpl) ?_
  refine h m B σ tv H _ hm hh fun s rs vs H1 q l1 l2 hh1 => ?_
  obtain ⟨ds, ia, hF⟩ := allK_of q
  have hpop := hh1.popA l1 hm
  have rr := hh1.argsOf l1 ia hm
  intro x dx n1 n2 ne
  rw [List.append_nil]
  refine ⟨H1, _, held_self rr n1 n2 ne, .ins C [] [], ds, _, rfl, hF, fun d' d ⟨e1, hk⟩ r H2 ⟨fp, h2⟩ => ?_⟩
  subst e1
  obtain ⟨w, w1, w2⟩ := h2.top
  cases w1
  unfold RepO at w2
  refine ⟨w2.1, ?_⟩
  obtain ⟨u, u1, u2⟩ := h2.var 0 _ rfl
  cases u1
  exact kk s _ _ H2 hk (hpop.new ⟨h2.base, _, u2, h2.nod _, fun a ha => h2.out _ a ha⟩)
/-- the instance at the top -/
@[reducible] def insK (C : Addr) (k : List Str → List D → Prop) : Slot → Prop
  | .own (.ins C' ns l) => C' = C ∧ k ns l
  | .par (.ins C' ns l) => C' = C ∧ k ns l
  | .view _ (.ins C' ns l) => C' = C ∧ k ns l
  | _ => False
theorem insK_of {k : List Str → List D → Prop} {r : Slot} (h : insK C k r) : ∃ ns l, r.is (.ins C ns l) ∧ k ns l := by
  unfold insK at h
  split at h
  · obtain ⟨rfl, h⟩ := h; exact ⟨_, _, Slot.is_own, h⟩
  · obtain ⟨rfl, h⟩ := h; exact ⟨_, _, Slot.is_par, h⟩
  · obtain ⟨rfl, h⟩ := h; exact ⟨_, _, Slot.is_view, h⟩
  · exact h.elim
theorem no_lookup {K : PySem.W.Frag} {f : Str} : ∀ {fs : List (Str × V)} {ns : List Str}, fs.map (·.1) = ns → f ∉ ns → fs.lookup f = none
  | [], _, _, _ => rfl
  | (g, v) :: fs, _, e, h => by
    subst e
    have n : f ≠ g := fun z => h (by rw [z]; exact List.mem_cons_self)
    rw [List.lookup_cons]
    have : (f == g) = false := by simpa using n
    rw [this]
    exact no_lookup (K := K) rfl fun z => h (List.mem_cons_of_mem _ z)
/-- o.m(e, ..) -/
theorem cMeth {F : List D → (D → Prop) → Prop} (M : MethAt X.prog X.w X.K X.mg X.base k C m ps fa fd dds F) (hr : Room j X.A) (hj : k ≤ j) {pl : Sem Bool}
    (h : EV X o ss ts fun s0 r0 => insK C (fun ns l => m ∉ ns ∧ AV X (e :: es) s0 (r0 :: ts) fun s rs => allK rs fun ds => F (.ins C ns l :: (ds ++ dds)) fun d => Φ s (.own d)) r0)
    (hst : starEach (e :: es) X.env = (false, eval e X.env) :: starEach es X.env := by rfl) (hpl : (backTo pos (starEach es X.env)).any (·.1) = false := by rfl)
    (ht : eval (.Call (.Attribute o m apos) (e :: es) [] pos) X.env = (do
      let ov ← eval o X.env
      standAt apos.atName
      let (f, first) ← holding [ov] (getMethod ov m pl)
      callWith pos f first (backTo pos (starEach (e :: es) X.env)) (backToKw pos (keywordEach [] X.env))) := by rfl) : EV X (.Call (.Attribute o m apos) (e :: es) [] pos) ss ts Φ := fun mm B σ tv H Q hm hh kk => by
  obtain ⟨dvs, dfl, b1, b2, b3⟩ := M.bd
  refine toE (pe_meth pe_w M.cl M.me M.ok (hr.mono hj) b1 b2 pass0 pa_w hst hpl ht) ?_
  refine h mm B σ tv H _ hm hh fun s0 r0 v H1 h1 hh1 => ?_
  obtain ⟨ns, l, i0, nm, h2⟩ := insK_of h1
  have z := hh1.top i0
  unfold RepR at z
  obtain ⟨a, dx, fs, rfl, ea, en, _⟩ := z
  refine ⟨a, dx, fs, rfl, ea, no_lookup (K := X.K) en nm, ?_⟩
  refine h2 mm B σ (.ref a :: tv) H1 _ hm.up hh1 fun s rs vs H2 q l1 l2 hh2 => ?_
  obtain ⟨ds, ia, hF⟩ := allK_of q
  have hp := hh2.popA l1 hm.up
  have rr : RepRs X.K H2 (.ins C ns l :: (ds ++ dds)) (.ref a :: (vs ++ dvs)) := reps_cons (hp.top i0) ((hh2.argsOf l1 ia hm.up).append (b3 H2))
  exact spP_use rr hF fun d u H3 hk n => kk s _ u H3 hk ((hp.pop hm).new n)
/-- o.m() -/
theorem cMeth0 {F : List D → (D → Prop) → Prop} (M : MethAt X.prog X.w X.K X.mg X.base k C m ps fa fd dds F) (hr : Room j X.A) (hj : k ≤ j) {pl : Sem Bool}
    (h : EV X o ss ts fun s0 r0 => insK C (fun ns l => m ∉ ns ∧ F (.ins C ns l :: dds) fun d => Φ s0 (.own d)) r0)
    (ht : eval (.Call (.Attribute o m apos) [] [] pos) X.env = (do
      let ov ← eval o X.env
      standAt apos.atName
      let (f, first) ← holding [ov] (getMethod ov m pl)
      callWith pos f first (backTo pos (starEach [] X.env)) (backToKw pos (keywordEach [] X.env))) := by rfl) : EV X (.Call (.Attribute o m apos) [] [] pos) ss ts Φ := fun mm B σ tv H Q hm hh kk => by
  obtain ⟨dvs, dfl, b1, b2, b3⟩ := M.bd
  refine toE (pe_meth0 pe_w M.cl M.me M.ok (hr.mono hj) b1 b2 pass0 ht) ?_
  refine h mm B σ tv H _ hm hh fun s0 r0 v H1 h1 hh1 => ?_
  obtain ⟨ns, l, i0, nm, hF⟩ := insK_of h1
  have z0 := hh1.top i0
  have z := z0
  unfold RepR at z
  obtain ⟨a, dx, fs, rfl, ea, en, _⟩ := z
  refine ⟨a, dx, fs, rfl, ea, no_lookup (K := X.K) en nm, ?_⟩
  show spP X.K F ([.ref a] ++ dvs) H1 Q E0
  exact spP_use (reps_cons z0 (b3 H1)) hF fun d u H3 hk n => kk s0 _ u H3 hk ((hh1.pop hm).new n)
/-- o.f, lent -/
@[reducible] def fldK (C : Addr) (k : List Str → List D → (D → Slot) → Prop) : Slot → Prop
  | .par (.ins C' ns l) => C' = C ∧ k ns l Slot.par
  | .view o (.ins C' ns l) => C' = C ∧ k ns l (Slot.view o)
  | _ => False
theorem eFld (c : Cls X.K C) (n : NoAttr X.K C f) (h : EV X o ss ts fun s r => fldK C (fun ns l mk => ∃ d, (ns.zip l).lookup f = some d ∧ Φ s (mk d)) r) (hb : attributeBase o f X.env (eval o X.env) = eval o X.env := by rfl) : EV X (.Attribute o f pos) ss ts Φ := fun mm B σ tv H Q hm hh kk => by
  refine toE (pe_fld pe_w hb) ?_
  refine h mm B σ tv H _ hm hh fun s r v H1 h1 ⟨fp, hf⟩ => ?_
  have slot := hf.top
  have key : ∀ (HR : Hp) ns l, RepR X.K HR (.ins C ns l) v → Ex HR H1 → ∀ d, (ns.zip l).lookup f = some d → (∀ w, RepR X.K HR d w → Q w H1) → ∃ a C dx fs u, v = .ref a ∧ H1 a = some (.ins C dx fs) ∧ Cls X.K C ∧ NoAttr X.K C f ∧ fs.lookup f = some u ∧ Q u H1 := fun HR ns l rr ex d lk fin => by
    unfold RepR at rr
    obtain ⟨a, dx, fs, rfl, ea, en, rl⟩ := rr
    obtain ⟨u, lu, ru⟩ := rep_lookup en rl lk
    exact ⟨a, C, dx, fs, u, rfl, ex _ _ ea, c, n, lu, fin u ru⟩
  cases r with
  | no => exact h1.elim
  | own d => exact h1.elim
  | par d =>
    cases d with
    | ins C' ns l =>
      obtain ⟨rfl, d, lk, q⟩ := h1
      obtain ⟨w, ew, rw'⟩ := slot
      cases ew
      exact key B ns l rw' hf.base d lk fun u ru => kk s _ u H1 q ⟨_, (hf.pop hm).pushV (o := .t ts.length) (fun _ z => nomatch z) ⟨u, rfl, ru⟩⟩
    | _ => exact h1.elim
  | view ow d =>
    cases d with
    | ins C' ns l =>
      obtain ⟨rfl, d, lk, q⟩ := h1
      obtain ⟨ok, w, ew, rw'⟩ := slot
      cases ew
      exact key _ ns l rw' restr_ex d lk fun u ru => kk s _ u H1 q ⟨_, (hf.pop hm).pushV (o := .t ts.length) (fun _ z => nomatch z) ⟨ok, u, rfl, ru⟩⟩
    | _ => exact h1.elim
end
end DL
/-! The data layer, part T2: stores into rows, slices walked. -/
namespace DL
open PySem PySem.Spec PyProof.Rows L2
theorem ixN_lt {n : Nat} {k : Int} {j : Nat} (h : ixN n k = some j) : j < n := by
  unfold ixN at h
  split at h <;> (split at h <;> first | (cases h; omega) | cases h)
theorem RepOs.split {K : PySem.W.Frag} {H : Hp} : ∀ {ds : List D} {vs : List V} {G : List Addr} (j : Nat) {d : D}, RepOs K H ds vs G → ds[j]? = some d → ∃ G1 F G2 v, G = G1 ++ (F ++ G2) ∧ vs[j]? = some v ∧ RepO K H d v F ∧ RepOs K H (ds.take j) (vs.take j) G1 ∧ RepOs K H (ds.drop (j + 1)) (vs.drop (j + 1)) G2
  | [], _, _, j, d, _, e => by simp at e
  | d0 :: ds, vs, G, 0, d, r, e => by
    cases e
    unfold RepOs at r
    obtain ⟨w, ws, F1, F2, rfl, rfl, r1, r2⟩ := r
    exact ⟨[], F1, F2, w, rfl, rfl, r1, by unfold RepOs; exact ⟨rfl, rfl⟩, r2⟩
  | d0 :: ds, vs, G, j + 1, d, r, e => by
    unfold RepOs at r
    obtain ⟨w, ws, F1, F2, rfl, rfl, r1, r2⟩ := r
    obtain ⟨G1, F, G2, v, rfl, e2, r3, r4, r5⟩ := RepOs.split (ds := ds) j r2 (by simpa using e)
    refine ⟨F1 ++ G1, F, G2, v, by simp, by simpa using e2, r3, ?_, by simpa using r5⟩
    rw [List.take_succ_cons, List.take_succ_cons]
    unfold RepOs
    exact ⟨w, _, F1, G1, rfl, rfl, r1, r4⟩
theorem set_split {α : Type} {l : List α} {j : Nat} {x y : α} (h : l[j]? = some x) : l.set j y = l.take j ++ y :: l.drop (j + 1) := by
  have hj := getElem?_lt h
  rw [List.set_eq_take_append_cons_drop, if_pos hj]
section
variable {X : Cx} {fx : List Nat} {ss ts : List Slot} {N : List Slot → Prop} {as : List Nat} {b1 b2 : Expr} {pos p1 px : Pos} {x : Str}
/-- x[b1][b2] = .., x in slot i, a list of lists -/
theorem gv_store2 (i : Nat) {L l : List D} {d : D} {j k : Int} {jn kn : Nat} (h1 : PI0 X b1 ss j) (h2 : PI0 X b2 ss k) (hj : ixN L.length j = some jn) (hl : L[jn]? = some (.lst l)) (hk : ixN l.length k = some kn)
    (q : N ((ss.map (kill (.v i))).set i (.own (.lst (L.set jn (.lst (l.set kn d))))))) (h0 : ss[i]? = some (.own (.lst L)) := by rfl) (hv1 : noView (.v i) ts = true := by rfl) (hN : X.N[i]? = some x := by rfl) (hv : Vis X.env.scope x := by first | exact Or.inl rfl | exact Or.inr (Or.inl rfl) | exact Or.inr (Or.inr rfl))
    (hd : (x == ("__debug__" : Str)) = false := by decide) (hcd : (x == ("__classdict__" : Str)) = false := by decide) (hs : PlainIx b1 := by intro _ _; rfl)
    (ha : ∀ v, assign (.Subscript (.Subscript (.Name x px) b1 p1) b2 pos) X.env v = (do
      let ov ← holding [v] (eval (.Subscript (.Name x px) b1 p1) X.env)
      let iv ← holding [v, ov] (eval b2 X.env)
      standAt pos
      holding [v, ov, iv] (setItem ov iv v)
      release [v, ov, iv] []) := by intro _; rfl) : GV X (.Subscript (.Subscript (.Name x px) b1 p1) b2 pos) as (.one (.own d)) ss ts N := fun m B σ tv H v Q hm hh kk => by
  obtain ⟨t1, e1, g1⟩ := h1
  obtain ⟨t2, e2, g2⟩ := h2
  refine toG (pg_sub (pe_ix ix_seq (pe_var hN hv hd hcd) e1 hs) e2 set_list ha) ?_
  obtain ⟨fp, hf⟩ := id hh
  obtain ⟨A, vs, G, x1, a1, f1, r1⟩ := hf.lst h0
  have lv := r1.reps.length
  obtain ⟨G1, F, G2, w, eG, ew, rw0, rl, rr⟩ := RepOs.split jn r1 hl
  unfold RepO at rw0
  obtain ⟨A2, us, G3, rfl, a2, rfl, r3⟩ := rw0
  have lu := r3.reps.length
  refine ⟨.ref A, x1, g1 B m σ (v :: tv) (.own d :: ts) H _ hh (.inl ⟨A, vs, j, .ref A2, rfl, rfl, SqL.of a1, ?_, g2 B m σ (v :: tv) (.own d :: ts) H _ hh ⟨A2, us, k, kn, rfl, rfl, a2, by rw [lu]; exact hk, ?_⟩⟩)⟩
  · unfold atI
    rw [lv, hj]
    exact ew
  have hh' : Held X.K m B H σ ss (v :: tv) (.own d :: ts) := hh
  obtain ⟨fp1, h1⟩ := hh'
  obtain ⟨fp2, F2, h2, s2, rd, n2, o2, b2, _⟩ := h1.take hm
  obtain ⟨A', vs', G', y1, c1, f2, r2⟩ := h2.lst h0
  rw [x1] at y1
  cases y1
  rw [a1] at c1
  cases c1
  obtain ⟨G1', F', G2', w', eG', ew', rw1, rl', rr'⟩ := RepOs.split jn r2 hl
  rw [ew] at ew'
  cases ew'
  unfold RepO at rw1
  obtain ⟨A2', us', G3', e3, a2', rfl, r3'⟩ := rw1
  cases e3
  rw [a2] at a2'
  cases a2'
  have nd := h2.nod (.v i)
  rw [f2, eG'] at nd
  have nd0 := List.nodup_cons.mp nd
  obtain ⟨m1, m2, m3⟩ := List.nodup_append.mp nd0.2
  obtain ⟨m4, m5, m6⟩ := List.nodup_append.mp m2
  have m7 := List.nodup_cons.mp m4
  have mem : ∀ b, b ∈ G1' ++ ((A2 :: G3') ++ G2') → b ∈ fp2 (.v i) := fun b hb => by rw [f2, eG']; exact List.mem_cons_of_mem _ hb
  obtain ⟨G4, r4, n4, s4⟩ := RepOs.set kn r3' m7.2 rd n2 fun a ha z => o2 a ha (.v i) (mem a (List.mem_append_right _ (List.mem_append_left _ (List.mem_cons_of_mem _ z))))
  have tk : TK H (upd H A2 (.lst (us.set kn v))) := TK.upd a2 fun z => z
  have AA2 : A ≠ A2 := fun z => nd0.1 (by rw [z]; exact List.mem_append_right _ (List.mem_append_left _ List.mem_cons_self))
  have in4 : ∀ b ∈ G4, b ∈ G3' ∨ b ∈ F2 := s4
  have ne4 : A2 ∉ G4 := fun z => by
    rcases in4 _ z with z | z
    · exact m7.1 z
    · exact o2 A2 z (.v i) (mem A2 (List.mem_append_right _ (List.mem_append_left _ List.mem_cons_self)))
  have ne1 : A2 ∉ G1' := fun z => m3 A2 z A2 (List.mem_append_left _ List.mem_cons_self) rfl
  have ne2 : A2 ∉ G2' := fun z => m6 A2 List.mem_cons_self A2 z rfl
  have hvs : vs.set jn (.ref A2) = vs := by
    rw [set_split ew]
    have hj2 := getElem?_lt ew
    have e : vs[jn] = .ref A2 := by
      have := List.getElem?_eq_getElem hj2
      rw [ew] at this
      exact (Option.some.inj this).symm
    rw [← e, List.getElem_cons_drop]
    exact List.take_append_drop _ _
  refine kk _ σ _ q ⟨_, h2.change (v := .ref A) (F' := A :: (G1' ++ ((A2 :: G4) ++ G2'))) (d' := .lst (L.set jn (.lst (l.set kn d)))) (by rw [x1]; rfl) (getElem?_lt h0) tk (fun b o hb e => ?_) ?_ ?_ (fun b hb => ?_) hv1⟩ ⟨fun _ _ => rfl, rfl⟩
  · rw [upd_ne (fun z => hb (by rw [z]; exact mem A2 (List.mem_append_right _ (List.mem_append_left _ List.mem_cons_self))))]
    exact e
  · unfold RepO
    refine ⟨A, vs, _, rfl, by rw [upd_ne AA2]; exact a1, rfl, ?_⟩
    have e5 : vs = vs.take jn ++ .ref A2 :: vs.drop (jn + 1) := by rw [← set_split ew, hvs]
    rw [set_split hl, e5]
    refine RepOs.append (rl'.frame tk fun b hb => upd_ne fun z => ne1 (z ▸ hb)) ?_
    unfold RepOs
    refine ⟨.ref A2, _, A2 :: G4, G2', rfl, rfl, ?_, rr'.frame tk fun b hb => upd_ne fun z => ne2 (z ▸ hb)⟩
    unfold RepO
    exact ⟨A2, _, G4, rfl, upd_same, rfl, r4.frame tk fun b hb => upd_ne fun z => ne4 (z ▸ hb)⟩
  · have d1 : ∀ b, b ∈ G4 → b ∉ G1' ∧ b ∉ G2' ∧ b ≠ A := fun b hb => by
      rcases in4 b hb with z | z
      · exact ⟨fun y => m3 b y b (List.mem_append_left _ (List.mem_cons_of_mem _ z)) rfl, fun y => m6 b (List.mem_cons_of_mem _ z) b y rfl, fun y => nd0.1 (y ▸ List.mem_append_right _ (List.mem_append_left _ (List.mem_cons_of_mem _ z)))⟩
      · exact ⟨fun y => o2 b z (.v i) (mem b (List.mem_append_left _ y)), fun y => o2 b z (.v i) (mem b (List.mem_append_right _ (List.mem_append_right _ y))), fun y => o2 b z (.v i) (by rw [f2, y]; exact List.mem_cons_self)⟩
    refine List.nodup_cons.mpr ⟨fun z => ?_, List.nodup_append.mpr ⟨m1, List.nodup_append.mpr ⟨List.nodup_cons.mpr ⟨ne4, n4⟩, m5, fun b hb c hc z => ?_⟩, fun b hb c hc z => ?_⟩⟩
    · rcases List.mem_append.mp z with z | z
      · exact nd0.1 (List.mem_append_left _ z)
      · rcases List.mem_append.mp z with z | z
        · rcases List.mem_cons.mp z with z | z
          · exact AA2 z
          · exact (d1 A z).2.2 rfl
        · exact nd0.1 (List.mem_append_right _ (List.mem_append_right _ z))
    · subst z
      rcases List.mem_cons.mp hb with rfl | hb
      · exact ne2 hc
      · exact (d1 b hb).2.1 hc
    · subst z
      rcases List.mem_append.mp hc with hc | hc
      · rcases List.mem_cons.mp hc with rfl | hc
        · exact ne1 hb
        · exact (d1 b hc).1 hb
      · exact m3 b hb b (List.mem_append_right _ hc) rfl
  · rcases List.mem_cons.mp hb with rfl | hb
    · exact .inl (by rw [f2]; exact List.mem_cons_self)
    · rcases List.mem_append.mp hb with hb | hb
      · exact .inl (mem b (List.mem_append_left _ hb))
      · rcases List.mem_append.mp hb with hb | hb
        · rcases List.mem_cons.mp hb with rfl | hb
          · exact .inl (mem _ (List.mem_append_right _ (List.mem_append_left _ List.mem_cons_self)))
          · rcases in4 b hb with z | z
            · exact .inl (mem b (List.mem_append_right _ (List.mem_append_left _ (List.mem_cons_of_mem _ z))))
            · exact .inr ⟨o2 b z, b2 b z⟩
        · exact .inl (mem b (List.mem_append_right _ (List.mem_append_right _ hb)))
end
/-! ### x[:b] walked, x a lent list of lists -/
theorem reps_raw {K : PySem.W.Frag} {H : Hp} : ∀ {vs ws : List V}, RepRs K H (vs.map D.raw) ws → ws = vs
  | [], ws, h => by unfold RepRs at h; exact h
  | v :: vs, ws, h => by
    rw [List.map_cons] at h
    unfold RepRs at h
    obtain ⟨w, us, rfl, h1, h2⟩ := h
    rw [rep_raw] at h1
    rw [h1, reps_raw h2]
theorem raw_reps {K : PySem.W.Frag} {H : Hp} : ∀ vs : List V, RepRs K H (vs.map D.raw) vs
  | [] => reps_nil
  | v :: vs => reps_cons (rep_raw.mpr rfl) (DL.raw_reps vs)
theorem flats_raw : ∀ vs : List V, D.flats (vs.map D.raw) = true
  | [] => by unfold D.flats; rfl
  | v :: vs => by rw [List.map_cons, D.flats_cons, flats_raw vs]; rfl
@[reducible] def lentL (k : List D → (D → Slot) → Prop) : Slot → Prop
  | .par (.lst l) => k l Slot.par
  | .view o (.lst l) => k l (Slot.view o)
  | _ => False
theorem lentL_of {k : List D → (D → Slot) → Prop} {r : Slot} (h : lentL k r) : ∃ l mk, r = mk (.lst l) ∧ (mk = Slot.par ∨ ∃ o, mk = Slot.view o) ∧ k l mk := by
  unfold lentL at h
  split at h
  · exact ⟨_, _, rfl, .inl rfl, h⟩
  · exact ⟨_, _, rfl, .inr ⟨_, rfl⟩, h⟩
  · exact h.elim
section
variable {X : Cx} {ss ts : List Slot} {l b tg : Expr} {pos p2 : Pos} {Ψ : List Slot → List Slot → List El → Prop}
theorem wSlTo (h : EV X l ss ts fun s1 r1 => EV X b s1 (r1 :: ts) fun s r2 => lentL (fun ds mk => i1K (fun j => ∃ n : Nat, j = (n : Int) ∧ ∀ raws raw2, Ψ s [.own (.lst raws), mk (.lst raw2), mk (.lst ds)] ((ds.take n).map fun d => .one (mk d))) r2) r1) :
    IV X tg (.Subscript l (.Slice none (some b) none p2) pos) ss ts Ψ := fun m B σ tv H R hm hh k => by
  refine toI (pi_list (pe_slice sl_list pe_w po_none (po_some pe_w))) ?_
  refine h m B σ tv H _ hm hh fun s1 r1 x H1 h1 hh1 => ?_
  refine h1 m B σ (x :: tv) H1 _ hm.up hh1 fun s r2 y H2 hq hh2 => ?_
  obtain ⟨ds, mk, rfl, hmk, hq⟩ := lentL_of hq
  obtain ⟨j, rfl, n, rfl, q⟩ := i1K_of hq
  have hy := hh2.top Slot.is_own
  rw [rep_int] at hy
  subst hy
  have hh3 := hh2.pop hm.up
  have ismk : ∀ d, Slot.is (mk d) d := fun d => by
    rcases hmk with rfl | ⟨o, rfl⟩
    · exact Slot.is_par
    · exact Slot.is_view
  have z := hh3.top (ismk _)
  unfold RepR at z
  obtain ⟨a, vs, rfl, a1, a2⟩ := z
  refine ⟨(n : Int), rfl, a, vs, rfl, SqL.of a1, fun p hp => ⟨p, rfl, ⟨_, SqL.of upd_same⟩, ?_⟩⟩
  have lv := a2.length
  have ecut : cutV vs none (some (n : Int)) = vs.take n := by
    unfold cutV
    rw [HT.sIx_none, HT.sIx_nat, List.drop_zero, Nat.sub_zero]
    rcases Nat.le_total n vs.length with hle | hle
    · rw [Nat.min_eq_left hle]
    · rw [Nat.min_eq_right hle, List.take_of_length_le hle, List.take_length]
  rw [ecut]
  -- the base a second time, by its values
  have hh4 : Held X.K m B H2 σ s (.ref a :: .ref a :: tv) (mk (.lst (vs.map D.raw)) :: mk (.lst ds) :: ts) := by
    obtain ⟨fp, hf⟩ := hh3
    have sl := hf.top
    refine ⟨_, hf.pushV (o := .t ts.length) (s := mk (.lst (vs.map D.raw))) (fun d z => by rcases hmk with rfl | ⟨o, rfl⟩ <;> cases z) ?_⟩
    rcases hmk with rfl | ⟨o, rfl⟩
    · obtain ⟨w, ew, rw'⟩ := sl
      cases ew
      unfold RepR at rw'
      obtain ⟨a', vs', ea, b1, _⟩ := rw'
      cases ea
      have e := hf.base _ _ b1
      rw [a1] at e
      cases e
      refine ⟨.ref a, rfl, ?_⟩
      unfold RepR
      exact ⟨a, vs, rfl, b1, raw_reps vs⟩
    · obtain ⟨ok, w, ew, rw'⟩ := sl
      cases ew
      unfold RepR at rw'
      obtain ⟨a', vs', ea, b1, _⟩ := rw'
      cases ea
      have e := restr_ex _ _ b1
      rw [a1] at e
      cases e
      refine ⟨ok, .ref a, rfl, ?_⟩
      unfold RepR
      exact ⟨a, vs, rfl, b1, raw_reps vs⟩
  have hh5 : Held X.K m B (upd H2 p (.lst (vs.take n))) σ s (.ref p :: .ref a :: .ref a :: tv) (.own (.lst ((vs.take n).map D.raw)) :: mk (.lst (vs.map D.raw)) :: mk (.lst ds) :: ts) := by
    refine hh4.fresh (F := [p]) (Ex.new hp) ?_ (by simp) fun b hb => by rw [List.mem_singleton.mp hb]; exact hp
    unfold RepO
    refine ⟨p, _, [], rfl, upd_same, rfl, ?_⟩
    exact ((raw_reps (K := X.K) (H := H2) (vs.take n)).flatO (flats_raw _)).frame (Ex.new hp).tk fun b hb => nomatch hb
  refine k s _ [.ref p, .ref a, .ref a] _ _ _ (q ((vs.take n).map D.raw) (vs.map D.raw)) rfl hh5 ?_
  intro m' B' H' σ' ss' ev es tv' ts' h' hlen hl hmm
  obtain ⟨fp, hf⟩ := h'
  have ma : m' ts.length := hmm _ (Nat.le_refl _) (by simp)
  have w1 := HeldF.at (v := .ref p) (r := .own (.lst ((vs.take n).map D.raw))) (ts := mk (.lst (vs.map D.raw)) :: mk (.lst ds) :: ts') (tv := .ref a :: .ref a :: tv') hf hlen
  have hf2 : HeldF X.K m' B' H' fp σ' ss' ((ev ++ [.ref p]) ++ (.ref a :: (.ref a :: tv'))) ((es ++ [.own (.lst ((vs.take n).map D.raw))]) ++ (mk (.lst (vs.map D.raw)) :: (mk (.lst ds) :: ts'))) := by
    rw [List.append_assoc, List.append_assoc]
    exact hf
  have w2 := HeldF.at hf2 (by simp [hlen])
  have hf3 : HeldF X.K m' B' H' fp σ' ss' ((ev ++ [.ref p, .ref a]) ++ (.ref a :: tv')) ((es ++ [.own (.lst ((vs.take n).map D.raw)), mk (.lst (vs.map D.raw))]) ++ (mk (.lst ds) :: ts')) := by
    rw [List.append_assoc, List.append_assoc]
    exact hf
  have w3 := HeldF.at hf3 (by simp [hlen])
  rw [hl] at w3
  -- the slice's values
  obtain ⟨u1, e1, r1⟩ := w1.read hf.base Slot.is_own
  cases e1
  unfold RepR at r1
  obtain ⟨p', us, ep, c1, c2⟩ := r1
  cases ep
  have eu := reps_raw c2
  subst eu
  obtain ⟨u2, e2, r2'⟩ := w2.read hf.base (ismk _)
  cases e2
  unfold RepR at r2'
  obtain ⟨a', us2, ea2, d1, d2⟩ := r2'
  cases ea2
  have eu2 := reps_raw d2
  subst eu2
  obtain ⟨a3, ws, ea3, g1, g2, g3⟩ := w3.item hf.base (ismk _) ma
  cases ea3
  rw [d1] at g1
  cases g1
  have esub : ∀ d, sub ts.length (mk (.lst ds)) d = mk d := fun d => by
    rcases hmk with rfl | ⟨o, rfl⟩ <;> rfl
  refine ⟨fun i el hi => ?_, fun i hi => ⟨us2.take n, SqL.of c1, by
    rw [List.length_map, List.length_take] at hi
    rw [List.length_take]
    omega⟩⟩
  obtain ⟨d, hd, rfl⟩ := els_get hi
  have hin := getElem?_lt hd
  rw [List.length_take] at hin
  rw [List.getElem?_take_of_lt (by omega)] at hd
  obtain ⟨w, k1, k2, k3⟩ := g3 i d hd
  have ht : (us2.take n)[i]? = some w := by rw [List.getElem?_take_of_lt (by omega)]; exact k1
  refine ⟨⟨_, w, SqL.of c1, ht⟩, fun x H3 y => ?_⟩
  obtain ⟨y1, y2⟩ := y
  subst y1
  have hx : x = w := by
    have := y2 _ (SqL.of c1)
    rw [ht] at this
    exact (Option.some.inj this).symm
  subst hx
  rw [esub] at k3
  exact ⟨_, hf.pushV (o := .t ts.length) (fun d' z => by rcases hmk with rfl | ⟨o, rfl⟩ <;> cases z) k3⟩
end
end DL
set_option maxHeartbeats 2000000
/-! The data layer, part H5: a tuple of flat data is walked; the class that a division by nought has. -/
namespace DL
open PySem PySem.Spec PyProof.Rows L2
section
variable {X : Cx} {ss ts : List Slot} {l tg : Expr} {Ψ : List Slot → List Slot → List El → Prop}
theorem wTup (h : EV X l ss ts fun s r => d1K (fun d => ∃ ds, d = .tup ds ∧ (∀ d ∈ ds, d.flat = true) ∧ Ψ s [r] (ds.map fun d => .one (.own d))) r) : IV X tg l ss ts Ψ := fun m B σ tv H R hm' hh k => by
  refine toI (pi_tup pe_w) ?_
  refine h m B σ tv H _ hm' hh fun s r x H1 h0 h1 => ?_
  obtain ⟨d, e1, ds, rfl, fl, q⟩ := d1K_of h0
  have z := h1.top e1
  unfold RepR at z
  obtain ⟨a, vs, rfl, z2, z3⟩ := z
  refine ⟨a, rfl, ⟨vs, z2⟩, k s [r] [.ref a] _ _ H1 q rfl h1 ?_⟩
  intro m' B' H' σ' ss' ev es tv' ts' h' hlen hl hmm
  obtain ⟨fp, hf⟩ := h'
  obtain ⟨w, e2, e3⟩ := (HeldF.at (v := .ref a) (r := r) (ts := ts') (tv := tv') hf hlen).read hf.base e1
  cases e2
  unfold RepR at e3
  obtain ⟨a', vs', ea, y2, y3⟩ := e3
  cases ea
  refine ⟨fun i el hi => ?_, fun i hi => ⟨vs', y2, ?_⟩⟩
  · rw [List.getElem?_map] at hi
    cases hd : ds[i]? with
    | none => rw [hd] at hi; cases hi
    | some d =>
      rw [hd] at hi
      have e4 : El.one (.own d) = el := Option.some.inj hi
      subst e4
      obtain ⟨w, g1, g2⟩ := y3.get hd
      refine ⟨⟨vs', w, y2, g1⟩, fun x H2 y => ?_⟩
      obtain ⟨u1, u2⟩ := y
      subst u1
      have hx : x = w := by
        have := u2 vs' y2
        rw [g1] at this
        exact (Option.some.inj this).symm
      subst hx
      exact ⟨_, hf.pushF (g2.flatO (fl d (List.mem_of_getElem? hd)))⟩
  · rw [y3.length]
    simpa using hi
end
section
variable {X : Cx} {ss ts : List Slot} {tg a b c : Expr} {p pos : Pos} {Ψ : List Slot → List Slot → List El → Prop}
theorem wRange3 (hm : X.mg "range" = none) (h : EV X a ss ts fun s1 r1 => EV X b s1 (r1 :: ts) fun s2 r2 => EV X c s2 (r2 :: r1 :: ts) fun s r3 => ∃ (i j k : Int) (n : Nat), r1 = .own (.int i) ∧ r2 = .own (.int j) ∧ r3 = .own (.int k) ∧ RgC i j k n ∧ Ψ s [] ((List.range n).map fun q => .one (.own (.int (i + ((q : Nat) : Int) * k)))))
    (hg : Gl X "range" := by rfl) (hs : starEach [a, b, c] X.env = (false, eval a X.env) :: starEach [b, c] X.env := by rfl) (hs2 : starEach [b, c] X.env = (false, eval b X.env) :: starEach [c] X.env := by rfl) (hs3 : starEach [c] X.env = (false, eval c X.env) :: starEach [] X.env := by rfl) (hpl : (backTo pos (starEach [b, c] X.env)).any (·.1) = false := by rfl) :
    IV X tg (.Call (.Name "range" p) [a, b, c] [] pos) ss ts Ψ := fun m B σ tv H R hm' hh k => by
  refine toI (pi_range3 hg hm (pa_cons pe_w (pa_cons pe_w (pa_cons pe_w pa_nil hs3) hs2) hs) hs hpl) ?_
  refine h m B σ tv H _ hm' hh fun s1 r1 x H1 h1 hh1 => ?_
  refine h1 m B σ (x :: tv) H1 _ hm'.up hh1 fun s2 r2 y H2 h2 hh2 => ?_
  refine h2 m B σ (y :: x :: tv) H2 _ hm'.up.up hh2 fun s r3 z H3 ⟨i, j, c', n, e1, e2, e3, rg, q⟩ hh3 => ?_
  subst e1 e2 e3
  have z3 : z = .int c' := rep_int.mp (hh3.top Slot.is_own)
  have hh4 := hh3.pop hm'.up.up
  have z2 : y = .int j := rep_int.mp (hh4.top Slot.is_own)
  have hh5 := hh4.pop hm'.up
  have z1 : x = .int i := rep_int.mp (hh5.top Slot.is_own)
  refine ⟨i, j, c', n, by rw [z1, z2, z3], rg, k s [] [] _ _ H3 q rfl (hh5.pop hm') ?_⟩
  intro m' B' H' σ' ss' ev es tv' ts' h' hlen hl hmm
  refine ⟨fun u el he => ?_, fun u hu => ?_⟩
  · rw [List.getElem?_map] at he
    cases e2 : (List.range n)[u]? with
    | none => rw [e2] at he; cases he
    | some k' =>
      rw [e2] at he
      have e3 : El.one (.own (.int (i + ((k' : Nat) : Int) * c'))) = el := Option.some.inj he
      subst e3
      obtain ⟨hi, e4⟩ := List.getElem?_eq_some_iff.mp e2
      simp at e4 hi
      subst e4
      refine ⟨(by show u < n; omega), fun x H2 y => ?_⟩
      obtain ⟨y1, y2⟩ := y
      subst y1 y2
      exact h'.pushF o_int
  · show n ≤ u
    simpa using hu
theorem els_range3 {n i : Nat} {lo c : Int} {el : El} (h : ((List.range n).map fun q => El.one (.own (.int (lo + ((q : Nat) : Int) * c))))[i]? = some el) : i < n ∧ el = .one (.own (.int (lo + ((i : Nat) : Int) * c))) := by
  rw [List.getElem?_map] at h
  cases e : (List.range n)[i]? with
  | none => rw [e] at h; cases h
  | some k =>
    rw [e] at h
    obtain ⟨hi, e4⟩ := List.getElem?_eq_some_iff.mp e
    simp at e4 hi
    subst e4
    exact ⟨hi, (Option.some.inj h).symm⟩
end
theorem exm_ZDE {K : PySem.W.Frag} : PySem.W.exmOne K (.type "ZeroDivisionError") (.type "ZeroDivisionError") = some true := by kernel_rfl
theorem raises_ZDE {X : Cx} : Raises X (.type "ZeroDivisionError") := fun M h k => ⟨PySem.W.Looks.of_pure PySem.F.excRaise_ZeroDivisionError.isExc, PySem.W.Looks.of_pure (by kernel_rfl)⟩
/-! ### the hook, with the interpreter's own statics in sight (readsIn looks there) -/
def obsFG (n : Nat) (eb : PySem.W.Frag → Bool) (tb : List (Str × List He.Dv)) (fa : List He.Fa) (fn : List He.DefD) (g : Addr → Option Obj) : AlT := obsE eb tb fa fn (He.frG g (He.asD g n ++ [cStatics]))
def hookF (n : Nat) (eb : PySem.W.Frag → Bool) (tb : List (Str × List He.Dv)) (fa : List He.Fa) (fn : List He.DefD) : PySem.W.Hook where
  α := AlT
  obs := fun s => obsFG n eb tb fa fn s.heap.get?
  val := fun _ => (true, He.valD fn)
  says := fun _ h => ∃ K : PySem.W.Frag, K.In h ∧ SaysE eb tb fa fn K
  of := fun _ _ e => ⟨_, He.frG_in, e⟩
  keeps := fun _ _ _ ⟨K, hK, c⟩ k => ⟨K, PySem.W.Frag.In.keeps hK k, c⟩
theorem obsFG_eq {n : Nat} {eb : PySem.W.Frag → Bool} {tb : List (Str × List He.Dv)} {fa : List He.Fa} {fn : List He.DefD} {g : Addr → Option Obj} {s : Shared} (h : ∀ a, g a = s.heap.get? a) : obsFG n eb tb fa fn g = (hookF n eb tb fa fn).obs s := by
  have e : g = s.heap.get? := funext h
  rw [e] <;> rfl
end DL
/-! The data layer, part T3: tables as data. -/
namespace DL
open PySem PySem.Spec PyProof.Rows L2
@[reducible] def rowD (r : List Rat) : D := .lst (r.map fq)
@[reducible] def tabD (R : List (List Rat)) : D := .lst (R.map rowD)
/-- a square table of at most m places -/
structure Tb (m : Nat) (R : List (List Rat)) : Prop where
  one : 1 ≤ R.length
  most : R.length ≤ m
  sq : ∀ r, r ∈ R → r.length = R.length
  sz : ∀ r, r ∈ R → ∀ x, x ∈ r → Sz 50 x
theorem tab_set {R : List (List Rat)} {j : Nat} {r : List Rat} : (R.map rowD).set j (.lst (r.map fq)) = (R.set j r).map rowD := by
  rw [List.map_set]
theorem row_set {r : List Rat} {k : Nat} {x : Rat} : (r.map fq).set k (fq x) = (r.set k x).map fq := by
  rw [List.map_set]
theorem fq_int (z : Int) : fq ((z : Int) : Rat) = .tup [.int z, .int 1] := by
  unfold fq
  rw [Rat.num_intCast, Rat.den_intCast]
  rfl
theorem sz_int {z : Int} {b : Nat} (h : z.natAbs < 2 ^ (b + 1)) : Sz (b + 1) ((z : Int) : Rat) := ⟨by rw [Rat.num_intCast]; exact h, by rw [Rat.den_intCast]; exact Nat.one_lt_two_pow (Nat.succ_ne_zero b)⟩
theorem mem_set {α : Type} {l : List α} {i : Nat} {a x : α} (h : x ∈ l.set i a) : x ∈ l ∨ x = a := by
  rcases List.mem_or_eq_of_mem_set h with h | h
  · exact .inl h
  · exact .inr h
section
variable {X : Cx} {ss ts : List Slot} {e l : Expr} {p pos tpos : Pos} {elts : List Expr} {kk : Nat} {Φ : List Slot → Slot → Prop} {Ψ : List Slot → List Slot → List El → Prop}
/-- enumerate(l), l of flat data -/
theorem wEnumF (hm : X.mg "enumerate" = none) (h : EV X l ss ts fun s r => d1K (fun d => ∃ ds, d = .lst ds ∧ (∀ d ∈ ds, d.flat = true) ∧ Ψ s [r] (ds.zipIdx.map fun p => .two (.own (.int ((p.2 : Nat) : Int))) (.own p.1))) r) (hg : Gl X "enumerate" := by rfl)
    (hs : starEach [l] X.env = [(false, eval l X.env)] := by rfl) : IV X (.Tuple elts kk tpos) (.Call (.Name "enumerate" p) [l] [] pos) ss ts Ψ :=
  iv_enumF hg hm (h.imp fun s r h => by
    obtain ⟨d, e, ds, rfl, q⟩ := d1K_of h
    exact ⟨ds, e, q⟩) hs
theorem els_enum {α : Type} {l : List α} {f : α → D} {i : Nat} {el : El} (h : ((l.map f).zipIdx.map fun p => El.two (.own (.int ((p.2 : Nat) : Int))) (.own p.1))[i]? = some el) : ∃ x, l[i]? = some x ∧ el = .two (.own (.int (i : Int))) (.own (f x)) := by
  rw [List.getElem?_map, List.getElem?_zipIdx, List.getElem?_map] at h
  cases e : l[i]? with
  | none => rw [e] at h; cases h
  | some x =>
    rw [e] at h
    refine ⟨x, rfl, ?_⟩
    have := (Option.some.inj h).symm
    simpa using this
/-- sum of a list of ints -/
theorem eSum (hm : X.mg "sum" = none) (hc : X.calm = true) (h : EV X e ss ts fun s r => ∃ ns : List Int, r = .own (.lst (ns.map D.int)) ∧ Φ s (.own (.int ns.sum))) (hg : Gl X "sum" := by rfl)
    (he : starEach [e] X.env = (false, eval e X.env) :: starEach [] X.env := by rfl) : EV X (.Call (.Name "sum" p) [e] [] pos) ss ts Φ :=
  ev_sum hc hg hm (h.imp fun s r ⟨ns, e, q⟩ => ⟨ns, .inl (by rw [e]; exact Slot.is_own), q⟩) he
end
theorem sum_bd {B : Int} : ∀ {l : List Int}, (∀ z, z ∈ l → -B ≤ z ∧ z ≤ B) → -(B * (l.length : Int)) ≤ l.sum ∧ l.sum ≤ B * (l.length : Int)
  | [], _ => by simp
  | z :: l, h => by
    have h1 := h z List.mem_cons_self
    have h2 := sum_bd (l := l) fun y hy => h y (List.mem_cons_of_mem _ hy)
    rw [List.sum_cons, List.length_cons, Int.natCast_add, Int.mul_add]
    have : B * ((1 : Nat) : Int) = B := by simp
    rw [this]
    omega
theorem atI_two {x y : D} {t : Bool} : atI [x, y] (if t = true then 1 else 0) = some (if t = true then y else x) := by cases t <;> rfl
theorem atI_of {α : Type} {l : List α} {f : α → D} {i : Nat} {x : α} (h : l[i]? = some x) : atI (l.map f) (i : Int) = some (f x) := by
  have hi := getElem?_lt h
  unfold atI ixN
  rw [if_pos (by omega), if_pos (by rw [List.length_map]; omega)]
  simp [h]
theorem ixN_of {n i : Nat} (h : i < n) : ixN n (i : Int) = some i := by
  unfold ixN
  rw [if_pos (by omega), if_pos (by omega)]
  simp
theorem tab_upd {R : List (List Rat)} {n j a b : Nat} {r1 : List Rat} (hR : ∀ (jj : Nat) r, R[jj]? = some r → r.length = n ∧ (∀ x, x ∈ r → Sz b x) ∧ (j ≤ jj → ∀ x, x ∈ r → Sz a x)) (hl : r1.length = n) (h1 : ∀ x, x ∈ r1 → Sz b x) :
    ∀ (jj : Nat) r, (R.set j r1)[jj]? = some r → r.length = n ∧ (∀ x, x ∈ r → Sz b x) ∧ (j + 1 ≤ jj → ∀ x, x ∈ r → Sz a x) := fun jj r h => by
  by_cases e : jj = j
  · subst e
    have hj : jj < R.length := by
      have := getElem?_lt h
      rwa [List.length_set] at this
    rw [List.getElem?_set_self hj] at h
    cases h
    exact ⟨hl, h1, fun z => absurd z (by omega)⟩
  · rw [List.getElem?_set_ne (Ne.symm e)] at h
    obtain ⟨q1, q2, q3⟩ := hR jj r h
    exact ⟨q1, q2, fun z => q3 (by omega)⟩
theorem fq_is {p q a b : Int} (hq : q ≠ 0) (hb : 0 < b) (hg : Int.gcd a b = 1) (e : p * b = a * q) : fq (Rat.divInt p q) = .tup [.int a, .int b] := by
  have e1 : Rat.divInt p q = Rat.divInt a b := (Rat.divInt_eq_divInt_iff hq (by omega)).mpr e
  have e2 : (Rat.divInt a b).num = a := by
    rw [lowest_num (by omega), if_neg (by omega), hg]
    simp
  have e3 : ((Rat.divInt a b).den : Int) = b := by
    rw [lowest_den (by omega), if_neg (by omega), hg]
    simp
  unfold fq
  rw [e1, e2, e3]
/-- the same bottom, the top with another sign -/
theorem fq_like {x : Rat} {a : Int} (h : a.natAbs = x.num.natAbs) : ∃ y : Rat, fq y = .tup [.int a, .int (x.den : Int)] ∧ ∀ b, Sz b x → Sz b y := by
  have g : Int.gcd a (x.den : Int) = 1 := by
    unfold Int.gcd
    rw [h]
    exact x.reduced
  have e := fq_is (p := a) (q := (x.den : Int)) (a := a) (b := (x.den : Int)) (den_ne x) (den_pos x) g rfl
  refine ⟨_, e, fun b s => ?_⟩
  unfold fq at e
  injection e with e
  injection e with e1 e2
  injection e2 with e2 _
  injection e1 with e1
  injection e2 with e2
  exact ⟨by rw [e1, h]; exact s.top, by rw [e2]; exact s.bot⟩
end DL
/-! The data layer, part T4: len of an instance. -/
namespace DL
open PySem PySem.Spec PyProof.Rows L2
section
variable {X : Cx} {C f : Addr} {fd : FuncData} {ps : List Str} {n j : Nat} {F : List D → (D → Prop) → Prop}
def rLenI (K : PySem.W.Frag) (C : Addr) (F : List D → (D → Prop) → Prop) : List V → Hp → VK → Prop := fun xs H Q => ∃ a dx fs, xs = [.ref a] ∧ H a = some (.ins C dx fs) ∧ spP K F [.ref a] H (fun v H' => ∃ q : Nat, v = .int (q : Int) ∧ q < 2 ^ 62 ∧ Q v H') E0
theorem call_lenI (M : MethAt X.prog X.w X.K X.mg X.base n C "__len__" ps f fd [] F) (hr : Room (n + 1) X.A) : CallR X (.builtin "len") (rLenI X.K C F) := by
  intro pins s σ H xs us Q I r h
  obtain ⟨a, dx, fs, rfl, ha, hsp⟩ := h
  obtain ⟨dvs, dfl, b1, b2, b3⟩ := M.bd
  cases r with
  | @cons _ u0 _ ur ra rw' =>
    obtain rfl : u0 = Value.ref a := ra
    cases rw'
    obtain ⟨mA, J, _⟩ := ins_get I.hok ha
    obtain ⟨od, J, _⟩ := J.look
    obtain ⟨m, hF⟩ := I.fr
    have e0 : Env0 X.prog X.w X.K X.mg X.base X.A.in1 X.stack s H := by
      have e := I.env0
      exact ⟨e.frames, e.mod, e.bs, e.bsz, e.funs, e.frf, e.hok, e.bare⟩
    have hd : dvs = [] := by
      have := (b3 H).length
      exact List.length_eq_zero_iff.mp (by simpa using this)
    subst hd
    cases b2
    have hl := M.ok.len _ _ _ _ hsp
    have r2 : Vals [V.ref a] [Value.ref a] := .cons rfl .nil
    refine PySem.W.len_K hF I.ok.mod.kin J M.me.at_ M.me.fn ?_
    refine wpAny_call (codeAny_mono (M.ok.run X.A.in1 X.stack s H ⟨[.ref a], []⟩ [.ref a] [.ref a] _ E0 hr.in1 e0 (by
      have := b1 s [.ref a] I.kIn (by simpa using hl)
      simpa using this) r2 hsp) fun r s' hq => ?_)
    cases r with
    | error e => exact hq.elim
    | ok fl =>
      cases fl with
      | ret w =>
        obtain ⟨z, H', I', rz, q, ez, q2, hQ⟩ := I.after hq
        subst ez
        obtain ⟨t, rfl⟩ := (show ∃ t, w = Value.int (q : Int) t from rz)
        have p63 : (2 : Nat) ^ 62 < 2 ^ 63 := by decide
        refine ⟨⟨by omega, by have : ((2 ^ 62 : Nat) : Int) = 2 ^ 62 := by decide
                              omega⟩, .int (q : Int), H', I'.tok _, ⟨_, rfl⟩, hQ⟩
      | next => exact False.elim hq
      | brk => exact False.elim hq
      | cont => exact False.elim hq
end
section
variable {X : Cx} {C f : Addr} {fd : FuncData} {ps : List Str} {n j : Nat} {F : List D → (D → Prop) → Prop} {ss ts : List Slot} {Φ : List Slot → Slot → Prop} {e : Expr} {p pos : Pos}
/-- len(e), e an instance -/
theorem eLenI (M : MethAt X.prog X.w X.K X.mg X.base n C "__len__" ps f fd [] F) (hr : Room j X.A) (hj : n + 1 ≤ j) (hm : X.mg "len" = none)
    (h : EV X e ss ts fun s r => insK C (fun ns l => F [.ins C ns l] fun d => ∃ q : Nat, d = .int (q : Int) ∧ q < 2 ^ 62 ∧ Φ s (.own (.int (q : Int)))) r) (hg : Gl X "len" := by rfl)
    (he : starEach [e] X.env = (false, eval e X.env) :: starEach [] X.env := by rfl) (hpl : (backTo pos (starEach [] X.env)).any (·.1) = false := by rfl) : EV X (.Call (.Name "len" p) [e] [] pos) ss ts Φ := fun mm B σ tv H Q hmm hh kk => by
  refine toE (pe_callB (call_lenI M (hr.mono hj)) hg hm (by decide +kernel) (pa_cons pe_w pa_nil he) (by decide) (by decide) he hpl) ?_
  refine h mm B σ tv H _ hmm hh fun s r v H1 h1 hh1 => ?_
  obtain ⟨ns, l, i0, hF⟩ := insK_of h1
  have z0 := hh1.top i0
  have z := z0
  unfold RepR at z
  obtain ⟨a, dx, fs, rfl, ea, en, _⟩ := z
  refine ⟨a, dx, fs, rfl, ea, ?_⟩
  refine spP_use (reps_cons z0 reps_nil) hF fun d u H3 ⟨q, ed, hq, hk⟩ nw => ?_
  subst ed
  obtain ⟨hb, FF, r3, _, _⟩ := id nw
  have eu : u = .int (q : Int) := by
    unfold RepO at r3
    exact r3.1
  subst eu
  exact ⟨q, rfl, hq, kk s _ _ H3 hk ((hh1.pop hmm).new nw)⟩
end
section
variable {X : Cx} {ss ts : List Slot} {l : Expr} {p pos tpos : Pos} {elts : List Expr} {kk : Nat} {Ψ : List Slot → List Slot → List El → Prop}
/-- enumerate(l), the items lent -/
theorem wEnumV (hm : X.mg "enumerate" = none) (h : EV X l ss ts fun s r => d1K (fun d => ∃ ds, d = .lst ds ∧ Ψ s [r] (ds.zipIdx.map fun p => .two (.own (.int ((p.2 : Nat) : Int))) (sub ts.length r p.1))) r) (hg : Gl X "enumerate" := by rfl)
    (hs : starEach [l] X.env = [(false, eval l X.env)] := by rfl) : IV X (.Tuple elts kk tpos) (.Call (.Name "enumerate" p) [l] [] pos) ss ts Ψ :=
  iv_enum hg hm (h.imp fun s r h => by
    obtain ⟨d, e, ds, rfl, q⟩ := d1K_of h
    exact ⟨ds, e, q⟩) hs
theorem els_enumV {α : Type} {l : List α} {f : α → D} {g : D → Slot} {i : Nat} {el : El} (h : ((l.map f).zipIdx.map fun p => El.two (.own (.int ((p.2 : Nat) : Int))) (g p.1))[i]? = some el) : ∃ x, l[i]? = some x ∧ el = .two (.own (.int (i : Int))) (g (f x)) := by
  rw [List.getElem?_map, List.getElem?_zipIdx, List.getElem?_map] at h
  cases e : l[i]? with
  | none => rw [e] at h; cases h
  | some x =>
    rw [e] at h
    refine ⟨x, rfl, ?_⟩
    have := (Option.some.inj h).symm
    simpa using this
end
/-- the object of a table -/
@[reducible] def tblD (C : Addr) (R : List (List Rat)) : D := .ins C ["kept"] [tabD R]
/-- square, of one to five places -/
structure Sq (R : List (List Rat)) : Prop where
  one : 1 ≤ R.length
  most : R.length ≤ 5
  sq : ∀ r, r ∈ R → r.length = R.length
def colQ (R : List (List Rat)) (j : Nat) : List Rat := R.map fun r => r.getD j 0
def transQ (R : List (List Rat)) : List (List Rat) := (List.range R.length).map (colQ R)
theorem Sq.trans {R : List (List Rat)} (h : Sq R) : Sq (transQ R) := by
  have e : (transQ R).length = R.length := by unfold transQ; rw [List.length_map, List.length_range]
  refine ⟨by rw [e]; exact h.one, by rw [e]; exact h.most, fun r hr => ?_⟩
  obtain ⟨j, _, rfl⟩ := List.mem_map.mp hr
  rw [e]
  unfold colQ
  rw [List.length_map]
/-- the sum of the products, place by place -/
def dotQ (r l : List Rat) : Rat := (List.zipWith (· * ·) r l).foldl (· + ·) 0
theorem zip_sz {r l : List Rat} (hr : ∀ x, x ∈ r → Sz 60 x) (hl : ∀ x, x ∈ l → Sz 60 x) : ∀ x, x ∈ List.zipWith (· * ·) r l → Sz 120 x := fun x hx => by
  obtain ⟨i, hi⟩ := List.getElem?_of_mem hx
  rw [List.getElem?_zipWith] at hi
  cases h1 : r[i]? with
  | none => rw [h1] at hi; cases hi
  | some a =>
    cases h2 : l[i]? with
    | none => rw [h1, h2] at hi; cases hi
    | some b =>
      rw [h1, h2] at hi
      have e : a * b = x := Option.some.inj hi
      rw [← e]
      exact (hr a (List.mem_of_getElem? h1)).mul (hl b (List.mem_of_getElem? h2))
theorem fold_sz {l : List Rat} (h : ∀ x, x ∈ l → Sz 120 x) : ∀ {b : Nat} {z : Rat}, Sz b z → Sz (b + 121 * l.length) (l.foldl (· + ·) z) := by
  induction l with
  | nil => exact fun hz => hz
  | cons x l ih =>
    intro b z hz
    rw [List.foldl_cons, List.length_cons]
    refine (ih (fun y hy => h y (List.mem_cons_of_mem _ hy)) (hz.add (h x List.mem_cons_self))).up (by omega)
theorem sz_nought : Sz 1 (0 : Rat) := ⟨by decide, by decide⟩
theorem dot_sz {r l : List Rat} (hr : ∀ x, x ∈ r → Sz 60 x) (hl : ∀ x, x ∈ l → Sz 60 x) : ∀ x, x ∈ List.zipWith (· * ·) r l → Sz 1000 x := fun x hx => (zip_sz hr hl x hx).up (by decide)
theorem dot_fold {r l : List Rat} (hr : ∀ x, x ∈ r → Sz 60 x) (hl : ∀ x, x ∈ l → Sz 60 x) (h5 : r.length ≤ 5) : ∀ i, i < r.length → Sz 1000 (((List.zipWith (· * ·) r l).take i).foldl (· + ·) 0) := fun i hi => by
  refine (fold_sz (fun x hx => zip_sz hr hl x (List.mem_of_mem_take hx)) sz_nought).up ?_
  rw [List.length_take]
  omega
theorem dotQ_sz {r l : List Rat} (hr : ∀ x, x ∈ r → Sz 60 x) (hl : ∀ x, x ∈ l → Sz 60 x) (h5 : r.length ≤ 5) : Sz 1000 (dotQ r l) := by
  refine (fold_sz (zip_sz hr hl) sz_nought).up ?_
  rw [List.length_zipWith]
  omega
end DL
/-! The data layer, part X6: methods that refuse. -/
namespace DL
open PySem PySem.Spec PyProof.Rows L2
/-- a method that may refuse, as callers see it -/
structure MethX (P : Program) (w : World) (K : PySem.W.Frag) (mg : Str → Option Value) (base : Heap) (k : Nat) (C : Addr) (m : Str) (ps : List Str) (f : Addr) (fd : FuncData) (dds : List D) (F : FX) : Prop where
  ok : FnOk P w K mg base (L2.CX P w) k f fd ps (spX K F)
  cl : Cls K C
  me : Meth K C m f
  bd : ∃ (dvs : List V) (dfl : List Value), Binds K fd ps dfl ∧ Vals dvs dfl ∧ ∀ H, RepRs K H dds dvs
theorem MethX.plain {P : Program} {w : World} {K : PySem.W.Frag} {mg : Str → Option Value} {base : Heap} {k : Nat} {C : Addr} {m : Str} {ps : List Str} {f : Addr} {fd : FuncData} {dds : List D} {F : FX} (M : MethX P w K mg base k C m ps f fd dds F) : MethAt P w K mg base k C m ps f fd dds fun ds k => F ds k fun _ => False :=
  ⟨fnOk_plain M.ok, M.cl, M.me, M.bd⟩
section
variable {X : Cx} {k j : Nat} {fa C : Addr} {fd : FuncData} {ps : List Str} {m : Str} {e o : Expr} {es : List Expr} {apos pos : Pos} {B : Hp} {ss ts : List Slot} {Φ : List Slot → Slot → Prop} {R : XD → List Slot → Prop} {dds : List D}
/-- o.m(e, ..), which may refuse -/
theorem xMeth {F : FX} (M : MethX X.prog X.w X.K X.mg X.base k C m ps fa fd dds F) (hr : Room j X.A) (hj : k ≤ j) {pl : Sem Bool}
    (h : EV X o ss ts fun s0 r0 => insK C (fun ns l => m ∉ ns ∧ AV X (e :: es) s0 (r0 :: ts) fun s rs => allK rs fun ds => F (.ins C ns l :: (ds ++ dds)) (fun d => Φ s (.own d)) fun y => R y s) r0)
    (hst : starEach (e :: es) X.env = (false, eval e X.env) :: starEach es X.env := by rfl) (hpl : (backTo pos (starEach es X.env)).any (·.1) = false := by rfl)
    (ht : eval (.Call (.Attribute o m apos) (e :: es) [] pos) X.env = (do
      let ov ← eval o X.env
      standAt apos.atName
      let (f, first) ← holding [ov] (getMethod ov m pl)
      callWith pos f first (backTo pos (starEach (e :: es) X.env)) (backToKw pos (keywordEach [] X.env))) := by rfl) : EVX X B (.Call (.Attribute o m apos) (e :: es) [] pos) ss ts Φ R := by
  intro mm fx σ tv H Q hm hh kk xt pins s I
  obtain ⟨dvs, dfl, b1, b2, b3⟩ := M.bd
  have ho : wE X o σ H fun x H1 => ∃ a dx fs, x = .ref a ∧ H1 a = some (.ins C dx fs) ∧ fs.lookup m = none ∧ wA X (e :: es) σ H1 fun vs H2 => spX X.K F (.ref a :: (vs ++ dvs)) H2 Q fun cls d H' => WR X.K B fx σ tv ts R cls d σ H' := by
    refine h mm B σ tv H _ hm hh fun s0 r0 v H1 h1 hh1 => ?_
    obtain ⟨ns, l, i0, nm, h2⟩ := insK_of h1
    have z := hh1.top i0
    unfold RepR at z
    obtain ⟨a, dx, fs, rfl, ea, en, _⟩ := z
    refine ⟨a, dx, fs, rfl, ea, no_lookup (K := X.K) en nm, ?_⟩
    refine h2 mm B σ (.ref a :: tv) H1 _ hm.up hh1 fun s rs vs H2 q l1 l2 hh2 => ?_
    obtain ⟨ds, ia, hF⟩ := allK_of q
    have hp := hh2.popA l1 hm.up
    have hpop := hp.pop hm
    refine ⟨.ins C ns l :: (ds ++ dds), _, _, reps_cons (hp.top i0) ((hh2.argsOf l1 ia hm.up).append (b3 H2)), hF, fun d v H3 q n => kk s _ v H3 q (hpop.new n), fun y cls d H3 q ex xa => ?_⟩
    exact ⟨y, s, q, xa, fun _ _ => rfl, ((hpop.ex ex).more (fun k q => hm k q) Low.self).less (fun _ _ q => q) Low.self (hpop.more (fun k q => hm k q) Low.self).vok⟩
  refine PySem.W.methodCall_KW (pl := pl) (thn (ho pins s I) fun u s1 ⟨x, H1, I1, rx, a, dx, fs, ex, ea, l, q⟩ => ?_) ht
  subst ex
  obtain rfl : u = Value.ref a := rx
  refine getmeth_ok I1 ea M.cl M.me l ?_
  refine PySem.W.callWith_K (first := [.ref a]) (h₀ := X.base) I.ok.mod.kin M.me.kp (thn (q pos pins s1 I1) fun us s2 ⟨vs, H2, I2, r, q2⟩ => ⟨I2.kIn, ?_⟩) hst hpl
  exact run_fnX (us := .ref a :: us) (vs := .ref a :: vs) M.ok (hr.mono hj) b1 b2 (fun e' s' c => xt.tk e' s' (XE.of_call I2 (fun _ _ _ h => h) c)) I2 (.cons rfl r) q2
/-- o.m(), o may refuse, m not -/
theorem xMethO {F : List D → (D → Prop) → Prop} (M : MethAt X.prog X.w X.K X.mg X.base k C m ps fa fd dds F) (hr : Room j X.A) (hj : k ≤ j) {pl : Sem Bool}
    (h : EVX X B o ss ts (fun s0 r0 => insK C (fun ns l => m ∉ ns ∧ F (.ins C ns l :: dds) fun d => Φ s0 (.own d)) r0) R)
    (ht : eval (.Call (.Attribute o m apos) [] [] pos) X.env = (do
      let ov ← eval o X.env
      standAt apos.atName
      let (f, first) ← holding [ov] (getMethod ov m pl)
      callWith pos f first (backTo pos (starEach [] X.env)) (backToKw pos (keywordEach [] X.env))) := by rfl) : EVX X B (.Call (.Attribute o m apos) [] [] pos) ss ts Φ R := fun mm fx σ tv H Q hm hh kk xt => by
  obtain ⟨dvs, dfl, b1, b2, b3⟩ := M.bd
  refine toE (pe_meth0 pe_w M.cl M.me M.ok (hr.mono hj) b1 b2 pass0 ht) ?_
  refine h mm fx σ tv H _ hm hh (fun s0 r0 v H1 h1 hh1 => ?_) xt
  obtain ⟨ns, l, i0, nm, hF⟩ := insK_of h1
  have z0 := hh1.top i0
  have z := z0
  unfold RepR at z
  obtain ⟨a, dx, fs, rfl, ea, en, _⟩ := z
  refine ⟨a, dx, fs, rfl, ea, no_lookup (K := X.K) en nm, ?_⟩
  show spP X.K F ([.ref a] ++ dvs) H1 Q E0
  exact spP_use (reps_cons z0 (b3 H1)) hF fun d u H3 hk n => kk s0 _ u H3 hk ((hh1.pop hm).new n)
end
end DL
/-! The data layer, part X7: calls whose arguments may refuse; and. -/
namespace DL
open PySem PySem.Spec PyProof.Rows L2
def AVX (X : Cx) (B : Hp) (es : List Expr) (ss ts : List Slot) (Ω : List Slot → List Slot → Prop) (R : XD → List Slot → Prop) : Prop :=
  ∀ m fx σ tv H Q, Low m ts.length → Held X.K m B H σ ss tv ts → (∀ ss' rs vs H', Ω ss' rs → vs.length = rs.length → rs.length = es.length → Held X.K m B H' σ ss' (vs.reverse ++ tv) (rs.reverse ++ ts) → Q vs H') → XT X B fx σ tv ts R → wA X es σ H Q
section
variable {X : Cx} {B : Hp} {e a b : Expr} {es rest : List Expr} {ss ts : List Slot} {Ω : List Slot → List Slot → Prop} {Φ : List Slot → Slot → Prop} {R : XD → List Slot → Prop} {x : Str} {p pos : Pos} {k j : Nat} {f : Addr} {fd : FuncData} {ps : List Str} {dds : List D}
theorem avx_av (h : AV X es ss ts Ω) : AVX X B es ss ts Ω R := fun m fx σ tv H Q hm hh k _ => h m B σ tv H Q hm hh k
theorem avx_cons (h : EVX X B e ss ts (fun s r => AVX X B es s (r :: ts) (fun s' rs => Ω s' (r :: rs)) R) R) (hs : starEach (e :: es) X.env = (false, eval e X.env) :: starEach es X.env := by rfl) : AVX X B (e :: es) ss ts Ω R := fun m fx σ tv H Q hm hh k xt => by
  refine toA (pa_cons pe_w pa_w hs) ?_
  refine h m fx σ tv H _ hm hh (fun s r v H1 h1 hh1 => ?_) xt
  have low : VOk (fun k => k < ts.length) ([r] ++ ts) := fun s hs k d e => hm k (hh1.vok s hs k d e)
  refine h1 m fx σ (v :: tv) H1 _ hm.up hh1 (fun s' rs vs H2 q l1 l2 hh2 => ?_) (xt.ups (rv := [v]) (rs := [r]) rfl low)
  refine k s' (r :: rs) (v :: vs) H2 q (by simp [l1]) (by simp [l2]) ?_
  rw [List.reverse_cons, List.reverse_cons, List.append_assoc, List.append_assoc]
  exact hh2
theorem avx_nil (q : Ω ss []) : AVX X B [] ss ts Ω R := avx_av (av_nil q)
/-- f(..), f does not refuse, its arguments may -/
theorem xCallP {F : List D → (D → Prop) → Prop} (C : DefAt X.prog X.w X.K X.mg X.base CX0 k x ps f fd dds F) (hr : Room j X.A) (hj : k ≤ j) (h : AVX X B (e :: es) ss ts (fun s rs => allK rs fun ds => F (ds ++ dds) fun d => Φ s (.own d)) R) (hg : Gl X x := by rfl)
    (hdb : (x == ("__debug__" : Str)) = false := by decide) (he : starEach (e :: es) X.env = (false, eval e X.env) :: starEach es X.env := by rfl) (hpl : (backTo pos (starEach es X.env)).any (·.1) = false := by rfl) : EVX X B (.Call (.Name x p) (e :: es) [] pos) ss ts Φ R := fun m fx σ tv H Q hm hh kk xt => by
  obtain ⟨dvs, dfl, b1, b2, b3⟩ := C.bd
  refine toE (pe_call C.ok (hr.mono hj) hg C.nm C.kp b1 b2 pass0 pa_w hdb he hpl) ?_
  refine h m fx σ tv H _ hm hh (fun s rs vs H1 q l1 l2 hh1 => ?_) xt
  obtain ⟨ds, ia, hF⟩ := allK_of q
  have hpop := hh1.popA l1 hm
  refine spP_use ((hh1.argsOf l1 ia hm).append (b3 H1)) hF fun d v H2 q n => ?_
  exact kk s _ v H2 q (hpop.new n)
/-- a and b, both may refuse -/
theorem xAnd (h : EVX X B a ss ts (fun s r => b1K (fun t => (t = true → EVX X B (.BoolOp .And (b :: rest) pos) s ts Φ R) ∧ (t = false → Φ s (.own (.bl false)))) r) R) : EVX X B (.BoolOp .And (a :: b :: rest) pos) ss ts Φ R := fun m fx σ tv H Q hm hh k xt => by
  refine toE (pe_and pe_w pe_w) ?_
  refine h m fx σ tv H _ hm hh (fun s r v H1 hb hh1 => ?_) xt
  obtain ⟨t, rfl, q1, q2⟩ := b1K_of hb
  have z := hh1.top Slot.is_own
  rw [rep_bl] at z
  refine ⟨t, z, ?_⟩
  cases t with
  | true => exact iteT ((q1 rfl) m fx σ tv H1 Q hm (hh1.pop hm) k xt)
  | false => exact iteF (k s _ _ H1 (q2 rfl) ((hh1.pop hm).pushF o_bl))
theorem xOne {op} (h : EVX X B a ss ts Φ R) : EVX X B (.BoolOp op [a] pos) ss ts Φ R := fun m fx σ tv H Q hm hh k xt => toE (pe_one pe_w) (h m fx σ tv H Q hm hh k xt)
theorem EVX.imp {Φ' : List Slot → Slot → Prop} (h : EVX X B a ss ts Φ' R) (i : ∀ s r, Φ' s r → Φ s r) : EVX X B a ss ts Φ R := fun m fx σ tv H Q hm hh k xt => h m fx σ tv H Q hm hh (fun s r v H' q h' => k s r v H' (i s r q) h') xt
end
theorem reps_bls {K : PySem.W.Frag} {H : Hp} : ∀ {bs : List Bool} {vs : List V}, RepRs K H (bs.map D.bl) vs → vs = bs.map V.bl
  | [], _, h => by rw [List.map_nil] at h; unfold RepRs at h; exact h
  | b :: bs, _, h => by
    rw [List.map_cons] at h
    unfold RepRs at h
    obtain ⟨w, ws, rfl, h1, h2⟩ := h
    rw [rep_bl] at h1
    rw [h1, reps_bls h2]
    rfl
section
variable {X : Cx} {ss ts : List Slot} {e : Expr} {p pos : Pos} {Φ : List Slot → Slot → Prop}
/-- all of a list of truths -/
theorem eAll (hm : X.mg "all" = none) (hc : X.calm = true) (h : EV X e ss ts fun s r => ∃ bs : List Bool, r = .own (.lst (bs.map D.bl)) ∧ Φ s (.own (.bl (bs.all id)))) (hg : Gl X "all" := by rfl)
    (he : starEach [e] X.env = (false, eval e X.env) :: starEach [] X.env := by rfl) (hpl : (backTo pos (starEach [] X.env)).any (·.1) = false := by rfl) : EV X (.Call (.Name "all" p) [e] [] pos) ss ts Φ :=
  ev_callB (cr_all hc) hg hm (by decide +kernel) (av_cons (h.imp fun s r ⟨bs, e1, q⟩ => av_nil ⟨[.lst (bs.map D.bl)], fun d => d = .bl (bs.all id), ⟨by rw [e1]; exact Slot.is_own, trivial⟩, fun H vs Q rr k => by
    obtain ⟨v, rfl, hv⟩ := reps1 rr
    unfold RepR at hv
    obtain ⟨a, ws, rfl, h1, h2⟩ := hv
    rw [reps_bls h2] at h1
    exact ⟨a, bs, rfl, SqL.of h1, k _ _ H rfl (.flat o_bl)⟩, fun d hd => by rw [hd]; exact q⟩) he) (he := he) (hpl := hpl)
end
end DL
/-! The data layer, part X8: slices of lists as values. -/
namespace DL
open PySem PySem.Spec PyProof.Rows L2
theorem reps_take {K : PySem.W.Frag} {H : Hp} : ∀ {ds : List D} {vs : List V} (n : Nat), RepRs K H ds vs → RepRs K H (ds.take n) (vs.take n)
  | [], vs, n, h => by
    unfold RepRs at h
    subst h
    rw [List.take_nil, List.take_nil]
    exact reps_nil
  | d :: ds, vs, 0, h => reps_nil
  | d :: ds, vs, n + 1, h => by
    unfold RepRs at h
    obtain ⟨w, ws, rfl, h1, h2⟩ := h
    exact reps_cons h1 (reps_take n h2)
theorem reps_drop {K : PySem.W.Frag} {H : Hp} : ∀ {ds : List D} {vs : List V} (n : Nat), RepRs K H ds vs → RepRs K H (ds.drop n) (vs.drop n)
  | [], vs, n, h => by
    unfold RepRs at h
    subst h
    rw [List.drop_nil, List.drop_nil]
    exact reps_nil
  | d :: ds, vs, 0, h => h
  | d :: ds, vs, n + 1, h => by
    unfold RepRs at h
    obtain ⟨w, ws, rfl, h1, h2⟩ := h
    exact reps_drop n h2
theorem flats_take {ds : List D} (n : Nat) (h : D.flats ds = true) : D.flats (ds.take n) = true := D.flats_of fun d hd => D.flats_mem h d (List.mem_of_mem_take hd)
theorem flats_drop {ds : List D} (n : Nat) (h : D.flats ds = true) : D.flats (ds.drop n) = true := D.flats_of fun d hd => D.flats_mem h d (List.mem_of_mem_drop hd)
theorem new_list {K : PySem.W.Frag} {H : Hp} {p : Addr} {ds : List D} {vs : List V} (hp : H p = none) (r : RepRs K H ds vs) (f : D.flats ds = true) : RepO K (upd H p (.lst vs)) (.lst ds) (.ref p) [p] := by
  unfold RepO
  exact ⟨p, _, [], rfl, upd_same, rfl, (r.flatO f).frame (Ex.new hp).tk fun b hb => nomatch hb⟩
section
variable {X : Cx} {ss ts : List Slot} {l b : Expr} {pos p2 : Pos} {Φ : List Slot → Slot → Prop}
/-- l[:b] -/
theorem eCutTo (h : EV X l ss ts fun s1 r1 => EV X b s1 (r1 :: ts) fun s r2 => d1K (fun d => ∃ (ds : List D) (n : Nat), d = .lst ds ∧ D.flats ds = true ∧ r2 = .own (.int (n : Int)) ∧ Φ s (.own (.lst (ds.take n)))) r1) : EV X (.Subscript l (.Slice none (some b) none p2) pos) ss ts Φ := fun m B σ tv H Q hm hh k => by
  refine toE (pe_slice sl_list pe_w po_none (po_some pe_w)) ?_
  refine h m B σ tv H _ hm hh fun s1 r1 x H1 h1 hh1 => ?_
  refine h1 m B σ (x :: tv) H1 _ hm.up hh1 fun s r2 y H2 hq hh2 => ?_
  obtain ⟨d, i0, ds, n, rfl, fl, rfl, q⟩ := d1K_of hq
  have hy := hh2.top Slot.is_own
  rw [rep_int] at hy
  subst hy
  have hh3 := hh2.pop hm.up
  have z := hh3.top i0
  unfold RepR at z
  obtain ⟨a, vs, rfl, a1, a2⟩ := z
  refine ⟨(n : Int), rfl, a, vs, rfl, SqL.of a1, fun p hp => ?_⟩
  have lv := a2.length
  have ecut : cutV vs none (some (n : Int)) = vs.take n := by
    unfold cutV
    rw [HT.sIx_none, HT.sIx_nat, List.drop_zero, Nat.sub_zero]
    rcases Nat.le_total n vs.length with hle | hle
    · rw [Nat.min_eq_left hle]
    · rw [Nat.min_eq_right hle, List.take_of_length_le hle, List.take_length]
  rw [ecut]
  exact k s _ _ _ q ((hh3.pop hm).fresh (F := [p]) (Ex.new hp) (new_list hp (reps_take n a2) (flats_take n fl)) (by simp) fun b hb => by rw [List.mem_singleton.mp hb]; exact hp)
/-- l[b:] -/
theorem eCutFrom (h : EV X l ss ts fun s1 r1 => EV X b s1 (r1 :: ts) fun s r2 => d1K (fun d => ∃ (ds : List D) (n : Nat), d = .lst ds ∧ D.flats ds = true ∧ r2 = .own (.int (n : Int)) ∧ Φ s (.own (.lst (ds.drop n)))) r1) : EV X (.Subscript l (.Slice (some b) none none p2) pos) ss ts Φ := fun m B σ tv H Q hm hh k => by
  refine toE (pe_slice sl_list pe_w (po_some pe_w) po_none) ?_
  refine h m B σ tv H _ hm hh fun s1 r1 x H1 h1 hh1 => ?_
  refine h1 m B σ (x :: tv) H1 _ hm.up hh1 fun s r2 y H2 hq hh2 => ?_
  obtain ⟨d, i0, ds, n, rfl, fl, rfl, q⟩ := d1K_of hq
  have hy := hh2.top Slot.is_own
  rw [rep_int] at hy
  subst hy
  have hh3 := hh2.pop hm.up
  have z := hh3.top i0
  unfold RepR at z
  obtain ⟨a, vs, rfl, a1, a2⟩ := z
  refine ⟨(n : Int), rfl, a, vs, rfl, SqL.of a1, fun p hp => ?_⟩
  have ecut : cutV vs (some (n : Int)) none = vs.drop n := by
    unfold cutV
    rw [HT.sIx_none, HT.sIx_nat]
    rcases Nat.le_total n vs.length with hle | hle
    · rw [Nat.min_eq_left hle, List.take_of_length_le (by rw [List.length_drop]; omega)]
    · rw [Nat.min_eq_right hle, List.drop_of_length_le hle, List.drop_length, List.take_nil]
  rw [ecut]
  exact k s _ _ _ q ((hh3.pop hm).fresh (F := [p]) (Ex.new hp) (new_list hp (reps_drop n a2) (flats_drop n fl)) (by simp) fun b hb => by rw [List.mem_singleton.mp hb]; exact hp)
end
end DL
/-! The data layer, part F1: lists that are not changed from now on (shared), list times a number, zip of rows and flat items. -/
namespace DL
open PySem PySem.Spec PyProof.Rows L2
/-- the script -/
theorem SqF.of {K : PySem.W.Frag} {H : Hp} {a : Addr} {vs : List V} (o : Only H) (h : SqL K H a vs) : SqF K H a vs := by
  rcases h with (h | h) | h
  · rcases o a with z | ⟨_, _, z⟩
    · rw [h] at z; cases z
    · rw [h] at z; cases z
  · exact .inl h
  · refine .inr ⟨fun H => .inr h, ?_⟩
    obtain ⟨o, _, _, h, _⟩ := h
    exact ⟨o, h⟩
mutual
/-- no instance, no exception in it -/
def D.pure : D → Bool
  | .tup l => D.pures l
  | .lst l => D.pures l
  | .fz l => D.pures l
  | .ins _ _ _ => false
  | .exc _ _ _ => false
  | _ => true
def D.pures : List D → Bool
  | [] => true
  | d :: ds => d.pure && D.pures ds
end
mutual
/-- its lists not changed from now on -/
def D.frz : D → D
  | .tup l => .tup (D.frzs l)
  | .lst l => .fz (D.frzs l)
  | .fz l => .fz (D.frzs l)
  | .non => .non
  | .bl b => .bl b
  | .int i => .int i
  | .str x => .str x
  | .raw v => .raw v
  | .ins C ns l => .ins C ns l
  | .exc C ns l => .exc C ns l
def D.frzs : List D → List D
  | [] => []
  | d :: ds => d.frz :: D.frzs ds
end
theorem D.frzs_map : ∀ {l : List D}, D.frzs l = l.map D.frz
  | [] => by unfold D.frzs; rfl
  | d :: l => by unfold D.frzs; rw [D.frzs_map]; rfl
mutual
theorem D.frz_flat : ∀ {d : D}, d.pure = true → d.frz.flat = true
  | .non, _ => by unfold D.frz D.flat; rfl
  | .bl _, _ => by unfold D.frz D.flat; rfl
  | .int _, _ => by unfold D.frz D.flat; rfl
  | .str _, _ => by unfold D.frz D.flat; rfl
  | .raw _, _ => by unfold D.frz D.flat; rfl
  | .tup l, h => by unfold D.frz D.flat; unfold D.pure at h; exact D.frzs_flat h
  | .lst l, h => by unfold D.frz D.flat; unfold D.pure at h; exact D.frzs_flat h
  | .fz l, h => by unfold D.frz D.flat; unfold D.pure at h; exact D.frzs_flat h
  | .ins _ _ _, h => by unfold D.pure at h; cases h
  | .exc _ _ _, h => by unfold D.pure at h; cases h
theorem D.frzs_flat : ∀ {l : List D}, D.pures l = true → D.flats (D.frzs l) = true
  | [], _ => by unfold D.frzs D.flats; rfl
  | d :: l, h => by
    unfold D.pures at h
    rw [Bool.and_eq_true] at h
    unfold D.frzs D.flats
    rw [D.frz_flat h.1, D.frzs_flat h.2]
    rfl
end
section
variable {X : Cx} {pins : List (Addr × Obj)} {σ : L2.St} {s : Shared}
/-- what the step of not changing any more asks and gives -/
def FrzTo (X : Cx) (pins : List (Addr × Obj)) (σ : L2.St) (s : Shared) (H H' : Hp) (F : List Addr) : Prop := Inv X pins σ H' s ∧ TK H H' ∧ ∀ b, b ∉ F → H' b = H b
theorem FrzTo.same {H : Hp} {F : List Addr} (I : Inv X pins σ H s) : FrzTo X pins σ s H H F := ⟨I, TK.refl H, fun _ _ => rfl⟩
theorem FrzTo.lock {H H1 : Hp} {F G : List Addr} {a : Addr} {vs : List V} (h : FrzTo X pins σ s H H1 G) (e : H1 a = some (.lst vs)) (hF : ∀ b, b ∉ F → b ≠ a ∧ b ∉ G) : ∃ o, FrzTo X pins σ s H (upd H1 a (.frz o (.lst vs))) F := by
  obtain ⟨o, I⟩ := h.1.lock e trivial
  refine ⟨o, I, fun b u hb st => ?_, fun b hb => ?_⟩
  · have := h.2.1 b u hb st
    rw [upd_ne (fun z => by rw [z, e] at this; cases this; exact st)]
    exact this
  · rw [upd_ne (hF b hb).1]
    exact h.2.2 b (hF b hb).2
mutual
theorem RepO.freeze : ∀ {d : D} {H : Hp} {v : V} {F : List Addr}, RepO X.K H d v F → d.pure = true → F.Nodup → Inv X pins σ H s → ∃ H', FrzTo X pins σ s H H' F ∧ RepO X.K H' d.frz v []
  | .non, H, _, _, h, _, _, I => by unfold RepO at h; exact ⟨H, .same I, by unfold D.frz RepO; exact ⟨h.1, rfl⟩⟩
  | .bl _, H, _, _, h, _, _, I => by unfold RepO at h; exact ⟨H, .same I, by unfold D.frz RepO; exact ⟨h.1, rfl⟩⟩
  | .int _, H, _, _, h, _, _, I => by unfold RepO at h; exact ⟨H, .same I, by unfold D.frz RepO; exact ⟨h.1, rfl⟩⟩
  | .str _, H, _, _, h, _, _, I => by unfold RepO at h; exact ⟨H, .same I, by unfold D.frz RepO; exact ⟨h.1, rfl⟩⟩
  | .raw _, H, _, _, h, _, _, I => by unfold RepO at h; exact ⟨H, .same I, by unfold D.frz RepO; exact ⟨h.1, rfl⟩⟩
  | .tup l, H, _, F, h, z, nd, I => by
    unfold RepO at h
    unfold D.pure at z
    obtain ⟨a, vs, e1, e2, e3⟩ := h
    obtain ⟨H1, f, r⟩ := RepOs.freeze e3 z nd I
    exact ⟨H1, f, by unfold D.frz RepO; exact ⟨a, vs, e1, f.2.1.sqt e2, r⟩⟩
  | .fz l, H, _, F, h, z, nd, I => by
    unfold RepO at h
    unfold D.pure at z
    obtain ⟨a, vs, e1, e2, e3⟩ := h
    obtain ⟨H1, f, r⟩ := RepOs.freeze e3 z nd I
    exact ⟨H1, f, by unfold D.frz RepO; exact ⟨a, vs, e1, f.2.1.sqf e2, r⟩⟩
  | .lst l, H, _, F, h, z, nd, I => by
    unfold RepO at h
    unfold D.pure at z
    obtain ⟨a, vs, G, e1, e2, e3, e4⟩ := h
    subst e3
    have nd1 := List.nodup_cons.mp nd
    obtain ⟨H1, f, r⟩ := RepOs.freeze e4 z nd1.2 I
    obtain ⟨o, g⟩ := f.lock (F := a :: G) (a := a) (vs := vs) ((f.2.2 a nd1.1).trans e2) fun b hb => ⟨fun z => hb (by rw [z]; exact List.mem_cons_self), fun z => hb (List.mem_cons_of_mem _ z)⟩
    refine ⟨_, g, ?_⟩
    unfold D.frz RepO
    exact ⟨a, vs, e1, .inl ⟨o, upd_same⟩, r.frame (fun b u hb st => by
      rw [upd_ne (fun z => by rw [z, f.2.2 a nd1.1, e2] at hb; cases hb; exact st)]
      exact hb) fun _ z => nomatch z⟩
  | .ins _ _ _, _, _, _, _, z, _, _ => by unfold D.pure at z; cases z
  | .exc _ _ _, _, _, _, _, z, _, _ => by unfold D.pure at z; cases z
theorem RepOs.freeze : ∀ {ds : List D} {H : Hp} {vs : List V} {F : List Addr}, RepOs X.K H ds vs F → D.pures ds = true → F.Nodup → Inv X pins σ H s → ∃ H', FrzTo X pins σ s H H' F ∧ RepOs X.K H' (D.frzs ds) vs []
  | [], H, _, _, h, _, _, I => by unfold RepOs at h; exact ⟨H, .same I, by unfold D.frzs RepOs; exact ⟨h.1, rfl⟩⟩
  | d :: ds, H, _, _, h, z, nd, I => by
    unfold RepOs at h
    unfold D.pures at z
    rw [Bool.and_eq_true] at z
    obtain ⟨w, ws, F1, F2, e1, e2, e3, e4⟩ := h
    subst e2
    have n3 := List.nodup_append.mp nd
    obtain ⟨H1, f1, r1⟩ := RepO.freeze e3 z.1 n3.1 I
    obtain ⟨H2, f2, r2⟩ := RepOs.freeze (e4.frame f1.2.1 fun b hb => f1.2.2 b fun z => n3.2.2 b z b hb rfl) z.2 n3.2.1 f1.1
    refine ⟨H2, ⟨f2.1, fun b u hb st => f2.2.1 b u (f1.2.1 b u hb st) st, fun b hb => ?_⟩, ?_⟩
    · rw [f2.2.2 b fun z => hb (List.mem_append_right _ z), f1.2.2 b fun z => hb (List.mem_append_left _ z)]
    · unfold D.frzs RepOs
      exact ⟨w, _, [], [], e1, rfl, r1.frame f2.2.1 fun _ z => (nomatch z), r2⟩
end
end
section
variable {X : Cx} {fx : List Nat} {ss ts : List Slot} {Φ : List Slot → Slot → Prop} {e a b : Expr} {pos : Pos} {E : DE} {sts : List Stmt}
/-- a new value, not changed from now on -/
theorem eFz (h : EV X e ss ts fun s r => ∃ d, r = .own d ∧ d.pure = true ∧ Φ s (.own d.frz)) : EV X e ss ts Φ := fun m B σ tv H Q hm hh k pins s I => by
  refine wpAny_mono (h m B σ tv H (fun v H1 => ∃ s d, Φ s (.own d.frz) ∧ d.pure = true ∧ Held X.K m B H1 σ s (v :: tv) (.own d :: ts)) hm hh (fun s r v H1 ⟨d, e, z, q⟩ h1 => ⟨s, d, q, z, by rw [← e]; exact h1⟩) pins s I) (fun u s' hs => ?_) fun e s' hs => hs
  obtain ⟨v, H1, I1, rv, s1, d, q, z, fp, h1⟩ := hs
  obtain ⟨fp', F, h2, _, r, nd, o, bn, _⟩ := h1.take hm
  obtain ⟨H2, f, r2⟩ := r.freeze z nd I1
  have ag : ∀ oo a, a ∈ fp' oo → H2 a = H1 a := fun oo a ha => f.2.2 a fun z => o a z oo ha
  have eb : Ex B H2 := fun a u ha => by
    have := h2.base a u ha
    rw [f.2.2 a fun z => by rw [bn a z] at ha; cases ha]
    exact this
  exact ⟨v, H2, f.1, rv, k s1 _ v H2 q (Held.pushF ⟨fp', h2.heap f.2.1 eb ag⟩ r2)⟩
/-- slot i, not changed from now on -/
theorem sv_fz (i : Nat) {d : D} (hs : ss[i]? = some (.own d)) (z : d.pure = true) (ht : noView (.v i) ts = true) (h : SV X fx sts ((ss.map (kill (.v i))).set i (.own d.frz)) ts E) : SV X fx sts ss ts E := fun B σ tv H D hh k pins s I => by
  obtain ⟨fp, hf⟩ := hh
  obtain ⟨v, hv, r⟩ := hf.var i _ hs
  obtain ⟨H2, f, r2⟩ := r.freeze z (hf.nod _) I
  refine h B σ tv H2 D ⟨_, hf.change hv (getElem?_lt hs) f.2.1 (fun a o ha e => (f.2.2 a ha).trans e) r2 List.nodup_nil (fun _ z => nomatch z) ht⟩ k pins s f.1
/-! ### list * number -/
theorem reps_flatten {K : PySem.W.Frag} {H : Hp} {ds : List D} {vs : List V} (h : RepRs K H ds vs) : ∀ n : Nat, RepRs K H (List.replicate n ds).flatten (List.replicate n vs).flatten
  | 0 => reps_nil
  | n + 1 => by
    rw [List.replicate_succ, List.replicate_succ, List.flatten_cons, List.flatten_cons]
    exact h.append (reps_flatten h n)
theorem flats_flatten {ds : List D} (h : D.flats ds = true) : ∀ n : Nat, D.flats (List.replicate n ds).flatten = true
  | 0 => by unfold D.flats; rfl
  | n + 1 => by
    rw [List.replicate_succ, List.flatten_cons, D.flats_append, h, flats_flatten h n]
    rfl
theorem eRep (h : EV X a ss ts fun s1 r1 => EV X b s1 (r1 :: ts) fun s r2 => d1K (fun d => ∃ (ds : List D) (n : Nat), d = .lst ds ∧ D.flats ds = true ∧ r2 = .own (.int (n : Int)) ∧ n < 1000 ∧ ds.length < 1000 ∧ Φ s (.own (.lst (List.replicate n ds).flatten))) r1) : EV X (.BinOp a .Mult b pos) ss ts Φ := fun m B σ tv H Q hm hh k => by
  refine toE (pe_op op_rep pe_w pe_w) ?_
  refine h m B σ tv H _ hm hh fun s1 r1 x H1 h1 hh1 => ?_
  refine h1 m B σ (x :: tv) H1 _ hm.up hh1 fun s r2 y H2 hq hh2 => ?_
  obtain ⟨d, e1, ds, n, rfl, f1, e2, hn, hl, q⟩ := d1K_of hq
  have z1 := hh2.top2 e1
  have z2 := hh2.top (d := .int (n : Int)) (by rw [e2]; exact Slot.is_own)
  unfold RepR at z1 z2
  obtain ⟨p1, xs, rfl, g1, g2⟩ := z1
  subst z2
  have hl2 := g2.length
  refine ⟨p1, (n : Int), xs, rfl, rfl, g1, by omega, by omega, ?_, fun p hp => ?_⟩
  · rw [hl2, sizeLine_eq]
    have : ds.length * n ≤ 1000 * 1000 := Nat.mul_le_mul (by omega) (by omega)
    rw [Int.toNat_natCast]
    omega
  · refine k s _ _ _ q (((hh2.pop hm.up).pop hm).fresh (F := [p]) (Ex.new hp) ?_ (by simp) fun a ha => ?_)
    · unfold RepO
      refine ⟨p, _, [], rfl, upd_same, rfl, ?_⟩
      have := (reps_flatten g2 n).flatO (flats_flatten f1 n)
      exact this.frame (Ex.new hp).tk (fun a ha => nomatch ha)
    · rw [List.mem_singleton.mp ha]
      exact hp
end
/-! ### zip of two lists, items lent or flat -/
/-- an item of a list on the way: flat data as owned, else lent -/
def it (n : Nat) (r : Slot) (d : D) : Slot := if d.flat = true then .own d else sub n r d
theorem it_flat {n : Nat} {r : Slot} {d : D} (h : d.flat = true) : it n r d = .own d := if_pos h
theorem it_sub {n : Nat} {r : Slot} {d : D} (h : d.flat = false) : it n r d = sub n r d := if_neg (by rw [h]; decide)
section
variable {K : PySem.W.Frag} {m : Nat → Prop} {B H H' : Hp} {σ : List (Option V)} {ss ts : List Slot} {tv : List V} {v : V} {fp : Own → List Addr} {d : D} {n : Nat} {r : Slot}
/-- an item put on the way -/
theorem HeldF.pushIt (h : HeldF K m B H fp σ ss tv ts) (r1 : RepR K H d v) {o : Own} (q : SlotOk K B H fp m o (some v) (sub n r d)) : HeldF K m B H (fupd fp (.t ts.length) []) σ ss (v :: tv) (it n r d :: ts) := by
  by_cases f : d.flat = true
  · rw [it_flat f]
    exact h.pushF (r1.flatO f)
  · rw [it_sub (by simpa using f)]
    exact h.pushV (fun _ => sub_own) q
/-- .. and what is read through a view stays so -/
theorem SlotOk.later {o : Own} (h : HeldF K m B H fp σ ss tv ts) (q : SlotOk K B H fp m o (some v) (sub n r d)) : SlotOk K B H (fupd fp (.t ts.length) []) m o (some v) (sub n r d) :=
  q.congrV (fun _ => sub_own) fun o' ho _ => by
    cases o' with
    | v i => exact fupd_vt
    | t k => exact fupd_tt (Nat.ne_of_lt (h.mle k ho))
theorem SlotOk.exx {o : Own} {s : Slot} (h : HeldF K m B H fp σ ss tv ts) (q : SlotOk K B H fp m o (some v) s) (e : Ex H H') : SlotOk K B H' fp m o (some v) s :=
  q.heap e.tk (h.base.trans e) h.base (fun a ha => by
    obtain ⟨u, hu, _⟩ := h.dom o a ha
    rw [hu, e a u hu]) fun o' d _ a ha => by
    obtain ⟨u, hu, _⟩ := h.dom o' a ha
    rw [hu, e a u hu]
end
section
variable {X : Cx} {fx : List Nat} {ss ts : List Slot} {e e2 : Expr} {pos p tpos : Pos} {elts : List Expr} {kk : Nat} {Ψ : List Slot → List Slot → List El → Prop}
theorem wZipG (hm : X.mg "zip" = none) (h : EV X e ss ts fun s1 r1 => EV X e2 s1 (r1 :: ts) fun s r2 => d1K (fun d1 => d1K (fun d2 => ∃ ds es, d1 = .lst ds ∧ d2 = .lst es ∧ Ψ s [r2, r1] ((ds.zip es).map fun p => .two (it ts.length r1 p.1) (it (ts.length + 1) r2 p.2))) r2) r1)
    (hg : Gl X "zip" := by rfl) (hs : starEach [e, e2] X.env = (false, eval e X.env) :: starEach [e2] X.env := by rfl) (hs2 : starEach [e2] X.env = (false, eval e2 X.env) :: starEach [] X.env := by rfl) (hpl : (backTo pos (starEach [e2] X.env)).any (·.1) = false := by rfl) :
    IV X (.Tuple elts kk tpos) (.Call (.Name "zip" p) [e, e2] [] pos) ss ts Ψ := fun m B σ tv H R hm' hh k => by
  refine toI (pi_zip hg hm (pa_cons pe_w (pa_cons pe_w pa_nil hs2) hs) hs hpl) ?_
  refine h m B σ tv H _ hm' hh fun s1 r1 x H1 h1 hh1 => ?_
  refine h1 m B σ (x :: tv) H1 _ hm'.up hh1 fun s r2 y H2 hq hh2 => ?_
  obtain ⟨d1, i1, hq⟩ := d1K_of hq
  obtain ⟨d2, i2, ds, es, rfl, rfl, q⟩ := d1K_of hq
  have za := hh2.top2 i1
  have zb := hh2.top i2
  unfold RepR at za zb
  obtain ⟨a, vs, rfl, a1, a2⟩ := za
  obtain ⟨b, ws, rfl, b1, b2⟩ := zb
  refine ⟨a, b, vs, ws, rfl, SqL.of a1, SqL.of b1, k s [r2, r1] [.ref b, .ref a] _ _ H2 q rfl hh2 ?_⟩
  intro m' B' H' σ' ss' ev es' tv' ts' h' hlen hle hmm
  obtain ⟨fp, hf⟩ := h'
  have mb : m' (ts.length + 1) := hmm _ (by omega) (by simp)
  have ma : m' ts.length := hmm _ (Nat.le_refl _) (by simp)
  have w1 := HeldF.at (v := .ref b) (r := r2) (ts := r1 :: ts') (tv := .ref a :: tv') hf hlen
  have hf2 : HeldF X.K m' B' H' fp σ' ss' ((ev ++ [.ref b]) ++ (.ref a :: tv')) ((es' ++ [r2]) ++ (r1 :: ts')) := by
    rw [List.append_assoc, List.append_assoc]
    exact hf
  have w2 := HeldF.at hf2 (by simp [hlen])
  rw [List.length_cons, hle] at w1
  rw [hle] at w2
  obtain ⟨b', ws', eb, c1, c2, c3⟩ := w1.item hf.base i2 mb
  obtain ⟨a', vs', ea, e1, e2', e3⟩ := w2.item hf.base i1 ma
  cases eb
  cases ea
  have len : ((ds.zip es).map fun p => El.two (it ts.length r1 p.1) (it (ts.length + 1) r2 p.2)).length = min ds.length es.length := by
    rw [List.length_map, List.length_zip]
  refine ⟨fun i el hi => ?_, fun i hi => ⟨vs', ws', SqL.of e1, SqL.of c1, by omega⟩⟩
  obtain ⟨pr, hpr, rfl⟩ := els_get hi
  obtain ⟨hd, he⟩ := List.getElem?_zip_eq_some.mp hpr
  obtain ⟨u, u1, u2, u3⟩ := e3 i pr.1 hd
  obtain ⟨v, v1, v2, v3⟩ := c3 i pr.2 he
  refine ⟨⟨vs', ws', u, v, SqL.of e1, SqL.of c1, u1, v1⟩, fun x H3 y => ?_⟩
  obtain ⟨T, x1, x2, ex, hT, eH, y1, y2⟩ := y
  have ex1 : x1 = u := by
    have z := y1 vs' (SqL.of e1)
    rw [u1] at z
    exact (Option.some.inj z).symm
  have ex2 : x2 = v := by
    have z := y2 ws' (SqL.of c1)
    rw [v1] at z
    exact (Option.some.inj z).symm
  subst ex1 ex2 ex eH
  have exx := Ex.new (o := .tup [x1, x2]) hT
  have g1 := (hf.ex exx).pushIt (u2.mono exx) (SlotOk.exx hf u3 exx)
  have g2 := g1.pushIt (v2.mono exx) (SlotOk.later (hf.ex exx) (SlotOk.exx hf v3 exx))
  exact ⟨T, x1, x2, rfl, .inl (.inl upd_same), _, g2⟩
end
end DL
/-! The data layer, part G1: defs that are called where no text of a list is under way; the text of nested data. -/
namespace DL
open PySem PySem.Spec PyProof.Rows L2
/-- a def's promise where no text is under way -/
structure FnG (P : Program) (w : World) (K : PySem.W.Frag) (mg : Str → Option Value) (base : Heap) (CX : CXT) (k : Nat) (f : Addr) (fd : FuncData) (ps : List Str) (sp : L2.Sp) : Prop where
  count : ∀ vs H Q E, sp vs H Q E → vs.length = ps.length
  go : ∀ (A : Around) (outer : List Env) (s : Shared) (H : Hp) (args : Args) (us : List Value) (vs : List V) (Q : VK) (E : XK), A.guards = some [] → Room k A → Env0 P w K mg base A outer s H → BindsTo s fd args (ps.zip us) → Vals vs us → sp vs H Q E → codeAny (model P w) A (.call (.ref f) args) (CR CX outer P w H s Q E) s
section
variable {P : Program} {w : World} {K : PySem.W.Frag} {mg : Str → Option Value} {base : Heap}
theorem fund_okG {CX : CXT} {x qual : Str} {params : Arguments} {body : List Stmt} {scope : Scope} {dvs : List V} {kws : List (Str × V)} {f : Addr} {fd : FuncData} {N ps : List Str} {k : Nat} {sp : L2.Sp} (F : FunD K x qual params body scope dvs kws f fd) (S : FnScope N ps scope)
    (count : ∀ vs H Q E, sp vs H Q E → vs.length = ps.length)
    (hb : ∀ (cdv : Value) (A : Around) (outer : List Env) (s : Shared) (H : Hp) (vs : List V) (Q : VK) (E : XK), A.guards = some [] → Room k (A.deeper (envOfC qual scope s.heap.objs.size f cdv)) → sp vs H Q E →
      ∃ t, PSs (cxOf CX P w K mg base N qual scope f cdv A outer s H E) body t ∧ t { nx := fun _ H' => Q .non H', rt := Q } (start N vs) H) : FnG P w K mg base CX (k + 1) f fd ps sp := by
  obtain ⟨oc, od, dV, kV, doc, pm, an, cdv, ct, osl, rfl, lk, cdi, _, _⟩ := F.ex
  refine ⟨count, fun A outer s H args us vs Q E hg room e0 bnd rel hsp => ?_⟩
  have ln := count _ _ _ _ hsp
  have kin : K.In s.heap := e0.mod.kin.keeps fun b o e => (e0.bs b o e).1
  have nol : s.heap.NoLimit := e0.mod.nolimit.keeps fun b o e => (e0.bs b o e).1
  refine codeAny_call_function room.depth (kin _ _ lk) rfl S.co S.gen rfl (PySem.W.codeRec_of kin cdi) (bnd _ _ _ _ ?_)
  refine wpAny_newFunctionEnv_cells S.kind (fun ⟨n, v⟩ hy => (S.par n (List.of_mem_zip hy).1).elim .inl fun q => .inr ⟨q, PySem.W.cellsFrom_some _ _ _ (.inl q)⟩) fun env he s1 x => ?_
  subst he
  refine ⟨nol.keeps x.toInCall.keep, codeAny_func ?_⟩
  obtain ⟨t, ht, hq⟩ := hb cdv A outer s H vs Q E hg (room.deeper _) hsp
  refine wpAny_mono (ht.run [] s1 (start N vs) H _ (inv_start S room.hd e0 ln rel x) hq) (fun fl s' hs => ?_) fun _ _ z => z
  cases fl with
  | ret u =>
    obtain ⟨v, σ', H', J, rv, q⟩ := hs
    exact ⟨v, H', J.os, J.bare, J.base, J.hok, rv, q⟩
  | next =>
    obtain ⟨σ', H', J, q⟩ := hs
    exact ⟨V.non, H', J.os, J.bare, J.base, J.hok, rfl, q⟩
  | brk =>
    obtain ⟨_, _, _, z⟩ := hs
    exact z.elim
  | cont =>
    obtain ⟨_, _, _, z⟩ := hs
    exact z.elim
/-- .. at the level of data, no argument changed -/
theorem fun_okG {CX : CXT} {x qual : Str} {st : Stmt} {dvs : List V} {f : Addr} {fd : FuncData} {N ps : List Str} {k : Nat} {F : List D → (D → Prop) → Prop} (Fn : FunD K x qual (defArgs st) (defBody st) (defScope st) dvs [] f fd) (S : FnScope N ps (defScope st))
    (len : ∀ ds q, F ds q → ds.length = ps.length)
    (hbody : ∀ (cdv : Value) (A : Around) (outer : List Env) (s : Shared) (H : Hp) (E : XK), A.guards = some [] → Room k (A.deeper (envOfC qual (defScope st) s.heap.objs.size f cdv)) → ∀ ds (q : D → Prop), F ds q →
      SV (cxOf CX P w K mg base N qual (defScope st) f cdv A outer s H E).nox [] (defBody st) (ds.map Slot.par ++ List.replicate (N.length - ps.length) .no) []
        { nx := fun _ => q .non, rt := fun _ r => ∃ d, r = .own d ∧ q d }) :
    FnG P w K mg base CX (k + 1) f fd ps (spP K F) := by
  refine fund_okG Fn S (fun vs H Q E h => ?_) fun cdv A outer s H vs Q E hg hr h => ?_
  · obtain ⟨B, ss, ⟨fp, hh⟩, ds, k0, rfl, hF, _⟩ := h
    have l2 := hh.slen
    rw [List.length_map, List.length_map] at l2
    rw [l2]
    exact len ds _ hF
  · obtain ⟨B, ss, ⟨fp, hf⟩, ds, k0, rfl, hF, hk⟩ := h
    have l1 := len ds _ hF
    have l2 := hf.slen
    rw [List.length_map, List.length_map] at l2
    refine ⟨_, PSs.nox pss_w, ?_⟩
    have st0 : start N vs = vs.map some ++ List.replicate (N.length - vs.length) none := rfl
    have h0 : Held K (fun k => k < 0) B H (start N vs) (ds.map Slot.par ++ List.replicate (N.length - ps.length) .no) [] [] := by
      refine ⟨fp, hf.base, ?_, rfl, Low.self, fun i s e => ?_, fun k s e => by simp at e, hf.disj, hf.nod, hf.out, hf.dom⟩
      · rw [st0, List.length_append, List.length_append, List.length_map, List.length_map, List.length_replicate, List.length_replicate, l2, l1]
      · by_cases hi : i < (ds.map Slot.par).length
        · rw [List.getElem?_append_left hi] at e
          rw [st0, List.getElem?_append_left (by simpa [l2] using hi)]
          exact hf.var i s e
        · rw [List.getElem?_append_right (Nat.le_of_not_lt hi), List.getElem?_replicate] at e
          split at e
          · have e2 := (Option.some.inj e).symm
            subst e2
            trivial
          · cases e
    have back : ∀ (s2 : List Slot) (σ2 : List (Option V)) (H2 : Hp) (v : V) (d : D), Held K (fun k => k < 0) B H2 σ2 s2 [v] [.own d] → Held K (fun k => k < 0) B H2 (vs.map some) (ds.map Slot.par) [v] [.own d] := by
      rintro s2 σ2 H2 v d ⟨fp2, h2⟩
      refine ⟨fp2, h2.base, by simp [l2], h2.tlen, fun _ z => absurd z (Nat.not_lt_zero _), fun i s e => ?_, h2.tmp, h2.disj, h2.nod, h2.out, h2.dom⟩
      obtain ⟨d', e', rfl⟩ := by
        rw [List.getElem?_map] at e
        exact Option.map_eq_some_iff.mp e
      obtain ⟨u, z1, z2⟩ := hf.var i _ e
      exact ⟨u, z1, z2⟩
    refine hbody cdv A outer s H E hg hr ds k0 hF B (start N vs) [] H _ h0 ⟨fun s2 σ2 H2 q h2 z => ?_, fun s2 r σ2 v H2 ⟨d, e, q⟩ h2 z => ?_, fun _ _ _ z => z.elim, fun _ _ _ z => z.elim⟩
    · exact hk _ q .non H2 (back s2 σ2 H2 .non .non (h2.pushF o_non))
    · subst e
      exact hk _ q v H2 (back s2 σ2 H2 v d h2)
end
/-! ### the law's end -/
/-- the law's promise, at the heap behind the top -/
theorem law_callG {P : Program} {w : World} {K : PySem.W.Frag} {mg mb : Str → Option Value} {CX : CXT} {k : Nat} {fa a : Addr} {fd : FuncData} {x : Str} {sp : L2.Sp} {s₁ : Shared} {vs : List Value} {ns : List Int}
    (kx : K.In s₁.heap) (hns : s₁.heap.Ns mainGlobals mg) (hb : s₁.heap.Ns builtinsNs mb) (hbb : ∀ x : Str, x ≠ "__name__" → mb x = bootBuiltins x) (hlim : s₁.heap.NoLimit) (hg : s₁.gens = #[])
    (ha : s₁.heap.get? a = some { cls := .type "list", data := .seq vs.toArray }) (hi : IntsAre vs ns) (hl : ns.length ≤ sizeLine) (hr : Room k callerA)
    (F : ∀ base : Heap, K.In base → base.Ns mainGlobals mg → FnG P w K mg base CX k fa fd [x] sp) (bnd : ∀ (s : Shared) (u : Value), BindsTo s fd ⟨[u], []⟩ [(x, u)])
    (say : ∀ H : Hp, Only H → SqL K H a (ns.map V.int) → sp [.ref a] H (fun v _ => v = .bl true) fun _ _ _ => False)
    (none : ∀ H e s', CX [] H s₁ (fun _ _ _ => False) e s' → False) :
    codeAny (model P w) callerA (.call (.ref fa) ⟨[.ref a], []⟩) (fun r s' => r = .ok (.ret (.bool true)) ∧ OldK s₁.heap s'.heap ∧ s'.os = s₁.os ∧ AllBare s'.gens) s₁ := by
  have rel := vals_ints hi
  have main : ∀ H : Hp, Only H → SqL K H a (ns.map V.int) → HOk P w H s₁.heap → (∀ b, H b ≠ .none → b = a) → (H a ≠ .none → K.lookup a = .none) →
      codeAny (model P w) callerA (.call (.ref fa) ⟨[.ref a], []⟩) (fun r s' => r = .ok (.ret (.bool true)) ∧ OldK s₁.heap s'.heap ∧ s'.os = s₁.os ∧ AllBare s'.gens) s₁ := by
    intro H only sq hok one out
    have keep : ∀ {b : Addr} {o : Obj}, s₁.heap.get? b = some o → H b = .none → (hidT s₁.heap H).get? b = some o := fun e n => hidT_get e n
    have free : ∀ {b : Addr} {o : Obj} {es : Array DictEntry} {ep : Nat}, s₁.heap.get? b = some o → o.data = .dict es ep → H b = .none := fun {b o es ep} e d => by
      by_cases q : H b = .none
      · exact q
      · have z := one b q
        rw [z, ha] at e
        cases e
        exact nomatch (show Data.seq vs.toArray _ = Data.dict es ep from d)
    have dict : ∀ {b : Addr} {m : Str → Option Value}, s₁.heap.Ns b m → (hidT s₁.heap H).Ns b m := fun {b m} ⟨o, es, ep, e, d, r⟩ => ⟨o, es, ep, keep e (free e d), d, r⟩
    have kin : K.In (hidT s₁.heap H) := fun b o e => keep (kx b o e) (by
      by_cases q : H b = .none
      · exact q
      · have z := one b q
        rw [z] at e q
        rw [out q] at e
        exact nomatch e)
    have mod : Mod K mg (hidT s₁.heap H) := ⟨kin, dict hns, ⟨mb, dict hb, hbb⟩, let ⟨mc, h1, h2⟩ := hlim; ⟨mc, dict h1, h2⟩⟩
    have e0 : Env0 P w K mg (hidT s₁.heap H) callerA [] s₁ H := ⟨rfl, mod, fun b o e => of_hidT e, Nat.le_of_eq (hidT_size _ _), trivial, fun b z => (by cases (show b ∈ ([] : List Addr) from z)), hok, .of_eq hg⟩
    refine codeAny_mono ((F _ kin (dict hns)).go callerA [] s₁ H ⟨[.ref a], []⟩ [.ref a] [.ref a] _ _ rfl hr e0 (bnd s₁ (.ref a)) (.cons rfl .nil) (say H only sq)) fun r s' h => ?_
    rcases r with e | fl
    · exact (none H e s' h).elim
    · rcases fl with _ | _ | _ | u
      · exact False.elim h
      · exact False.elim h
      · exact False.elim h
      · obtain ⟨v, H', os, bare, un, hok', rv, q⟩ := h
        have q' : v = .bl true := q
        subst q'
        have eu : u = Value.bool true := rv
        subst eu
        refine ⟨rfl, OldK.of_keep fun b o e => ?_, os, bare⟩
        rcases only b with z | ⟨ob, xs, z⟩
        · exact un.keep b o e z (fun y => nomatch (show b ∈ ([] : List Addr) from y)) (by simp)
        · obtain ⟨e1, _⟩ := hok b _ z
          obtain ⟨e2, _⟩ := hok' b _ (un.frzs b ob _ z)
          rw [e] at e1
          cases e1
          exact e2
  cases hk : K.lookup a with
  | some o =>
    have e := kx a o hk
    rw [ha] at e
    cases e
    refine main (fun _ => .none) (fun _ => .inl rfl) (.inr ⟨_, vs.toArray, _, hk, rfl, rfl, rfl, by rw [List.size_toArray, hi.length]; exact hl, by simpa using rel⟩) (fun b u z => (nomatch (show (Option.none : Option HO) = some u from z))) (fun b z => absurd rfl z) fun z => absurd rfl z
  | none =>
    have at_ : ∀ b, (if b = a then some (HO.frz { cls := .type "list", data := .seq vs.toArray } (.lst (ns.map V.int))) else Option.none) ≠ .none → b = a := fun b z => by
      by_cases q : b = a
      · exact q
      · rw [if_neg q] at z
        exact absurd rfl z
    refine main (fun b => if b = a then some (.frz { cls := .type "list", data := .seq vs.toArray } (.lst (ns.map V.int))) else .none) (fun b => ?_) (.inl (.inr ⟨{ cls := .type "list", data := .seq vs.toArray }, if_pos rfl⟩)) (fun b u z => ?_) at_ fun _ => hk
    · by_cases q : b = a
      · exact .inr ⟨_, _, if_pos q⟩
      · exact .inl (if_neg q)
    · have q := at_ b (fun y => nomatch y.symm.trans z)
      subst q
      have z' := (if_pos rfl).symm.trans z
      cases z'
      exact ⟨ha, by rw [List.length_map]; exact hl, vs, _, rel, ha⟩
theorem walk_ofG {l : PySem.W.OpenLaw} {n k : Nat} {q : Program} {loose : List Str} {XP : (Str → Option Value) → Heap → Prop} {YP : World → Heap → Prop} {d : DefRec} {CX : CXT} {x : Str}
    (hn : l.most = some n) (hn2 : n ≤ sizeLine) (hdf : d.params.defaults = []) (hr : Room k callerA)
    (F : ∀ (w : World) (mg : Str → Option Value) (fa : Addr) (h : Heap), YP w h → h.Ns mainGlobals mg → mg d.name = some (.ref fa) →
      ∃ (K : PySem.W.Frag) (fd : FuncData) (sp : L2.Sp), K.In h ∧ (∀ (s : Shared) (u : Value), BindsTo s fd ⟨[u], []⟩ [(x, u)]) ∧
        (∀ (H : Hp) (a : Addr) (ns : List Int), ns.length ≤ n → Only H → SqL K H a (ns.map V.int) → sp [.ref a] H (fun v _ => v = .bl true) fun _ _ _ => False) ∧
        ∀ base : Heap, K.In base → base.Ns mainGlobals mg → FnG l.prog w K mg base CX k fa fd [x] sp)
    (none : ∀ (H : Hp) (s : Shared) (e : Value) (s' : Shared), CX [] H s (fun _ _ _ => False) e s' → False) :
    PySem.W.WalkO q loose XP YP l.row.toRowW d [] (fun f vs => PySem.call f vs) := by
  refine Att.attach_call hn hdf fun w s₀ s₁ mg mb fa o pm cd doc a vs ns G Y ho hd hcd hmg hobj hints hlen hg => ?_
  obtain ⟨K, fd, sp, kx, hb, say, run⟩ := F w mg fa _ Y G.T.g hmg
  exact law_callG kx G.T.g G.T.b G.T.builtins G.T.nolimit hg hobj hints (Nat.le_trans hlen hn2) hr run hb (fun H only sq => say H a ns hlen only sq) fun H e s' => none H s₁ e s'
end DL
/-! The data layer, part G2: str of nested data. -/
namespace DL
open PySem PySem.Spec PyProof.Rows L2
mutual
/-- a bound of the text's length -/
def wtP : PyData → Nat
  | .none => 4
  | .bool _ => 5
  | .int _ => 1922
  | .str x => (reprText x).length
  | .list xs => wtPs xs + 2
  | .tuple xs => wtPs xs + 4
  | .dict _ => 0
def wtPs : List PyData → Nat
  | [] => 0
  | x :: xs => wtP x + 2 + wtPs xs
end
theorem len_listText : ∀ ts : List Str, (listText ts).length ≤ piled ts + 2
  | [] => by decide +kernel
  | t :: r => by
    have h := textFrom_length_pos r 1 (("[" : Str) ++ (if (0 : Nat) > 0 then ", " else "" : String) ++ t) (Nat.succ_pos 0)
    have e : ((("[" : Str) ++ (if (0 : Nat) > 0 then ", " else "" : String) ++ t)).length = 1 + t.length := by
      rw [strLen_append, strLen_append]; rfl
    have hX : (listText (t :: r)).length = (textFrom 1 (("[" : Str) ++ (if (0 : Nat) > 0 then ", " else "" : String) ++ t) r).length + 1 := by
      show (textFrom 1 _ r ++ "]").length = _
      rw [strLen_append]; rfl
    rw [hX, h, e, piled_cons]
    omega
theorem len_tupleText (ts : List Str) : (tupleText ts).length ≤ piled ts + 4 := by
  unfold tupleText
  rw [strLen_append, strLen_append]
  have e1 : ((("(" : String) : Str)).length = 1 := rfl
  have e3 : (((if ts.length == 1 then ",)" else ")" : String) : Str)).length ≤ 2 := by split <;> decide
  by_cases h : ts = []
  · subst h
    have : (Str.join ", " ([] : List Str)).length = 0 := rfl
    omega
  · have := join_length_add ts h
    omega
mutual
theorem shown_wt : ∀ (d : PyData), d.showable = true → d.hasDict = false → d.shown.length ≤ wtP d
  | .none, _, _ => by unfold PyData.shown wtP; decide +kernel
  | .bool b, _, _ => by cases b <;> (unfold PyData.shown wtP; decide +kernel)
  | .int i, h, _ => by
    unfold PyData.showable at h
    unfold PyData.shown wtP
    exact Nat.le_succ_of_le (int_text_len_1921 (of_decide_eq_true h))
  | .str x, _, _ => by unfold PyData.shown wtP; exact Nat.le_refl _
  | .list xs, h, k => by
    unfold PyData.showable at h
    unfold PyData.hasDict at k
    unfold PyData.shown wtP
    have := len_listText (PyData.shownAll xs)
    have := shownAll_wt xs h k
    omega
  | .tuple xs, h, k => by
    unfold PyData.showable at h
    unfold PyData.hasDict at k
    unfold PyData.shown wtP
    have := len_tupleText (PyData.shownAll xs)
    have := shownAll_wt xs h k
    omega
  | .dict _, _, k => by unfold PyData.hasDict at k; cases k
theorem shownAll_wt : ∀ (xs : List PyData), PyData.showableAll xs = true → PyData.hasDictAll xs = false → piled (PyData.shownAll xs) ≤ wtPs xs
  | [], _, _ => by unfold PyData.shownAll wtPs; exact Nat.le_of_eq piled_nil
  | x :: xs, h, k => by
    unfold PyData.showableAll at h
    unfold PyData.hasDictAll at k
    rw [Bool.and_eq_true] at h
    rw [Bool.or_eq_false_iff] at k
    unfold PyData.shownAll wtPs
    rw [piled_cons]
    have := shown_wt x h.1 k.1
    have := shownAll_wt xs h.2 k.2
    omega
end
mutual
def D.wt : D → Nat
  | .non => 4
  | .bl _ => 5
  | .int _ => 1922
  | .str x => (reprText x).length
  | .tup l => D.wts l + 4
  | .lst l => D.wts l + 2
  | .fz l => D.wts l + 2
  | _ => 0
def D.wts : List D → Nat
  | [] => 0
  | d :: ds => d.wt + 2 + D.wts ds
end
mutual
/-- may be told as text -/
def D.shw : Nat → D → Bool
  | _, .non => true
  | _, .bl _ => true
  | _, .int i => decide (i.natAbs.log2 < 1920)
  | _, .str _ => true
  | _, .raw _ => false
  | _, .ins _ _ _ => false
  | _, .exc _ _ _ => false
  | 0, .tup _ => false
  | 0, .lst _ => false
  | 0, .fz _ => false
  | n + 1, .tup l => D.shws n l
  | n + 1, .lst l => D.shws n l
  | n + 1, .fz l => D.shws n l
def D.shws : Nat → List D → Bool
  | _, [] => true
  | n, d :: ds => D.shw n d && D.shws n ds
end
mutual
theorem D.shw_py : ∀ {n : Nat} {d : D}, d.shw n = true → ∃ p, d.py = some p ∧ p.showable = true ∧ p.hasDict = false ∧ wtP p = d.wt ∧ p.depth ≤ n
  | _, .non, _ => ⟨.none, by unfold D.py; rfl, by unfold PyData.showable; rfl, by unfold PyData.hasDict; rfl, by unfold wtP D.wt; rfl, by unfold PyData.depth; exact Nat.zero_le _⟩
  | _, .bl b, _ => ⟨.bool b, by unfold D.py; rfl, by unfold PyData.showable; rfl, by unfold PyData.hasDict; rfl, by unfold wtP D.wt; rfl, by unfold PyData.depth; exact Nat.zero_le _⟩
  | _, .int i, h => ⟨.int i, by unfold D.py; rfl, by unfold D.shw at h; unfold PyData.showable; exact h, by unfold PyData.hasDict; rfl, by unfold wtP D.wt; rfl, by unfold PyData.depth; exact Nat.zero_le _⟩
  | _, .str x, _ => ⟨.str x, by unfold D.py; rfl, by unfold PyData.showable; rfl, by unfold PyData.hasDict; rfl, by unfold wtP D.wt; rfl, by unfold PyData.depth; exact Nat.zero_le _⟩
  | _, .raw _, h => by unfold D.shw at h; cases h
  | _, .ins _ _ _, h => by unfold D.shw at h; cases h
  | _, .exc _ _ _, h => by unfold D.shw at h; cases h
  | 0, .tup _, h => by unfold D.shw at h; cases h
  | 0, .lst _, h => by unfold D.shw at h; cases h
  | 0, .fz _, h => by unfold D.shw at h; cases h
  | n + 1, .tup l, h => by
    unfold D.shw at h
    obtain ⟨ps, e1, e2, e3, e4, e5⟩ := D.shws_py h
    exact ⟨.tuple ps, by unfold D.py; rw [e1]; rfl, by unfold PyData.showable; exact e2, by unfold PyData.hasDict; exact e3, by unfold wtP D.wt; rw [e4], by unfold PyData.depth; omega⟩
  | n + 1, .lst l, h => by
    unfold D.shw at h
    obtain ⟨ps, e1, e2, e3, e4, e5⟩ := D.shws_py h
    exact ⟨.list ps, by unfold D.py; rw [e1]; rfl, by unfold PyData.showable; exact e2, by unfold PyData.hasDict; exact e3, by unfold wtP D.wt; rw [e4], by unfold PyData.depth; omega⟩
  | n + 1, .fz l, h => by
    unfold D.shw at h
    obtain ⟨ps, e1, e2, e3, e4, e5⟩ := D.shws_py h
    exact ⟨.list ps, by unfold D.py; rw [e1]; rfl, by unfold PyData.showable; exact e2, by unfold PyData.hasDict; exact e3, by unfold wtP D.wt; rw [e4], by unfold PyData.depth; omega⟩
theorem D.shws_py : ∀ {n : Nat} {ds : List D}, D.shws n ds = true → ∃ ps, D.pys ds = some ps ∧ PyData.showableAll ps = true ∧ PyData.hasDictAll ps = false ∧ wtPs ps = D.wts ds ∧ PyData.depthAll ps ≤ n
  | _, [], _ => ⟨[], by unfold D.pys; rfl, by unfold PyData.showableAll; rfl, by unfold PyData.hasDictAll; rfl, by unfold wtPs D.wts; rfl, by unfold PyData.depthAll; exact Nat.zero_le _⟩
  | n, d :: ds, h => by
    unfold D.shws at h
    rw [Bool.and_eq_true] at h
    obtain ⟨p, e1, e2, e3, e4, e5⟩ := D.shw_py h.1
    obtain ⟨ps, f1, f2, f3, f4, f5⟩ := D.shws_py h.2
    refine ⟨p :: ps, by unfold D.pys; rw [e1, f1], by unfold PyData.showableAll; rw [e2, f2]; rfl, by unfold PyData.hasDictAll; rw [e3, f3]; rfl, by unfold wtPs D.wts; rw [e4, f4], ?_⟩
    unfold PyData.depthAll
    exact Nat.max_le.mpr ⟨e5, f5⟩
end
/-- str of it -/
def D.text (d : D) : Str := match d.py with
  | some p => p.shown
  | none => ""
theorem D.text_py {d e : D} (h : d.py = e.py) : d.text = e.text := by unfold D.text; rw [h]
@[reducible] def D.isL : D → Bool
  | .lst _ => true
  | .fz _ => true
  | .tup _ => true
  | _ => false
theorem D.isL_ref {K : PySem.W.Frag} {H : Hp} {d : D} {v : V} (h : RepR K H d v) (e : d.isL = true) : ∃ a, v = .ref a := by
  cases d with
  | lst l => unfold RepR at h; obtain ⟨a, _, e, _⟩ := h; exact ⟨a, e⟩
  | fz l => unfold RepR at h; obtain ⟨a, _, e, _⟩ := h; exact ⟨a, e⟩
  | tup l => unfold RepR at h; obtain ⟨a, _, e, _⟩ := h; exact ⟨a, e⟩
  | _ => cases e
def rStrD (K : PySem.W.Frag) : List V → Hp → VK → Prop := fun xs H Q => ∃ a p, xs = [.ref a] ∧ Dp K H (.ref a) p ∧ (p.showable = true ∧ p.hasDict = false ∧ p.shown.length ≤ sizeLine ∧ p.depth ≤ 16) ∧ Q (.str p.shown) H
section
variable {X : Cx} {ss ts : List Slot} {Φ : List Slot → Slot → Prop} {e : Expr} {p pos : Pos}
theorem call_strD (hg : X.A.guards = some []) (hu : X.A.units + 64 < cLine) : CallR X (.type "str") (rStrD X.K) := by
  intro pins s σ H xs us Q I r h
  obtain ⟨a, d, rfl, hd, ⟨h1, h2, h3, h4⟩, q⟩ := h
  obtain ⟨u, rfl, r1⟩ := vals1 r
  obtain ⟨as, rd⟩ := Dp.reads I d _ u hd r1
  cases r1
  exact str_of_reads rd h1 (PyData.noDict_hsm h2) hg (by omega) (fun _ _ z => z) (fun h' u tk k => ⟨.str _, H, I.kept (t' := tk) k, ⟨_, rfl⟩, q⟩) h3
/-- str(e), e nested data -/
theorem eStrD (hm : X.mg "str" = none) (hgd : X.A.guards = some []) (hu : X.A.units + 64 < cLine) (h : EV X e ss ts fun s r => d1K (fun d => (d.isL = true ∧ d.shw 16 = true ∧ d.wt ≤ 1000000) ∧ Φ s (.own (.str d.text))) r) (hg : Gl X "str" := by rfl)
    (he : starEach [e] X.env = (false, eval e X.env) :: starEach [] X.env := by rfl) (hpl : (backTo pos (starEach [] X.env)).any (·.1) = false := by rfl) : EV X (.Call (.Name "str" p) [e] [] pos) ss ts Φ :=
  ev_callTy (call_strD hgd hu) hg hm (by decide +kernel) (av_cons (h.imp fun s r hq => av_nil (by
    obtain ⟨d, e1, ⟨i1, i2, i3⟩, q⟩ := d1K_of hq
    obtain ⟨p, p1, p2, p3, p4, p5⟩ := D.shw_py i2
    refine ⟨[d], fun x => x = .str d.text, ⟨e1, trivial⟩, fun H vs Q rr k => ?_, fun x hx => by rw [hx]; exact q⟩
    obtain ⟨v, rfl, hv⟩ := reps1 rr
    obtain ⟨a, rfl⟩ := D.isL_ref hv i1
    have et : d.text = p.shown := by unfold D.text; rw [p1]
    refine ⟨a, p, rfl, D.dp hv p1, ⟨p2, p3, ?_, p5⟩, k _ _ H rfl (by rw [et]; exact .flat o_str)⟩
    have := shown_wt p p2 p3
    rw [sizeLine_eq]
    omega)) he) (he := he) (hpl := hpl)
end
theorem D.wts_nil : D.wts [] = 0 := by rw [D.wts]
theorem D.wts_cons {d : D} {ds : List D} : D.wts (d :: ds) = d.wt + 2 + D.wts ds := by rw [D.wts]
theorem D.wt_lst {l : List D} : (D.lst l).wt = D.wts l + 2 := by rw [D.wt]
theorem D.wt_fz {l : List D} : (D.fz l).wt = D.wts l + 2 := by rw [D.wt]
theorem D.wt_tup {l : List D} : (D.tup l).wt = D.wts l + 4 := by rw [D.wt]
theorem D.wt_int {i : Int} : (D.int i).wt = 1922 := by rw [D.wt]
theorem D.wt_bl {i : Bool} : (D.bl i).wt = 5 := by rw [D.wt]
theorem D.shws_nil {n : Nat} : D.shws n [] = true := by rw [D.shws]
theorem D.shws_cons {n : Nat} {d : D} {ds : List D} : D.shws n (d :: ds) = (D.shw n d && D.shws n ds) := by rw [D.shws]
theorem D.shw_lst {n : Nat} {l : List D} : (D.lst l).shw (n + 1) = D.shws n l := by rw [D.shw]
theorem D.shw_fz {n : Nat} {l : List D} : (D.fz l).shw (n + 1) = D.shws n l := by rw [D.shw]
theorem D.shw_tup {n : Nat} {l : List D} : (D.tup l).shw (n + 1) = D.shws n l := by rw [D.shw]
theorem D.shw_int {n : Nat} {i : Int} : (D.int i).shw n = decide (i.natAbs.log2 < 1920) := by rw [D.shw]
theorem D.shw_bl {n : Nat} {i : Bool} : (D.bl i).shw n = true := by rw [D.shw]
/-! ### texts of fractions -/
theorem wt_fq {x : Rat} : (fq x).wt = 3852 := by
  unfold fq
  rw [D.wt_tup, D.wts_cons, D.wts_cons, D.wts_nil, D.wt_int, D.wt_int]
theorem wts_row : ∀ {l : List Rat}, D.wts (l.map fq) = 3854 * l.length
  | [] => D.wts_nil
  | x :: l => by
    rw [List.map_cons, List.length_cons, D.wts_cons, wt_fq, wts_row]
    omega
theorem shw_fq {x : Rat} {b n : Nat} (h : Sz b x) (hb : b ≤ 1900) : (fq x).shw (n + 1) = true := by
  have h1 : x.num.natAbs.log2 < 1920 := by
    by_cases z : x.num.natAbs = 0
    · rw [z]; decide
    · exact (Nat.log2_lt z).mpr (Nat.lt_of_lt_of_le h.top (Nat.pow_le_pow_right (by decide) (by omega)))
  have h2 : (x.den : Int).natAbs.log2 < 1920 := by
    rw [Int.natAbs_natCast]
    by_cases z : x.den = 0
    · rw [z]; decide
    · exact (Nat.log2_lt z).mpr (Nat.lt_of_lt_of_le h.bot (Nat.pow_le_pow_right (by decide) (by omega)))
  unfold fq
  rw [D.shw_tup, D.shws_cons, D.shws_cons, D.shws_nil, D.shw_int, D.shw_int, decide_eq_true h1, decide_eq_true h2]
  rfl
theorem shws_fq {b n : Nat} (hb : b ≤ 1900) : ∀ {l : List Rat}, (∀ x, x ∈ l → Sz b x) → D.shws (n + 1) (l.map fq) = true
  | [], _ => D.shws_nil
  | x :: l, h => by
    rw [List.map_cons, D.shws_cons, shw_fq (h x List.mem_cons_self) hb, shws_fq hb fun y hy => h y (List.mem_cons_of_mem _ hy)]
    rfl
end DL
/-! The data layer, part G3: a call that changes a value on the way; an item taken out of a new list; == where lists may be shared. -/
namespace DL
open PySem PySem.Spec PyProof.Rows L2
section
variable {K : PySem.W.Frag} {m : Nat → Prop} {B H H' : Hp} {σ : List (Option V)} {tv vs : List V} {v x : V} {fp : Own → List Addr} {d d0 d' : D} {l : List D} {n : Nat} {ss ts rs : List Slot} {r : Slot} {ds : List D} {o : Own}
theorem HeldF.topT (h : HeldF K m B H fp σ ss (v :: tv) (r :: ts)) (hn : n < ts.length) (e : r.isN (.t n) d) : RepR K (hless H (fp (.t n))) d v := by
  have tk : TK H (hless H (fp (.t n))) := fun a o q s => by
    rw [hless_at]
    · exact q
    · intro z
      obtain ⟨u, e1, k⟩ := h.dom _ a z
      rw [q] at e1
      cases e1
      exact k s
  have z := h.top
  rcases e with rfl | rfl | ⟨o', ne, rfl⟩
  · obtain ⟨w, e1, e2⟩ := z
    cases e1
    refine (e2.frame tk fun a ha => hless_at fun z => ?_).rep
    have := h.disj _ _ a ha z
    injection this with this
    omega
  · obtain ⟨w, e1, e2⟩ := z
    cases e1
    refine e2.mono fun a o q => ?_
    rw [hless_at]
    · exact h.base a o q
    · intro z
      rw [h.out _ a z] at q
      cases q
  · obtain ⟨_, w, e1, e2⟩ := z
    cases e1
    refine e2.mono fun a o q => ?_
    unfold restr at q
    split at q
    · rename_i c
      rw [hless_at]
      · exact q
      · intro z
        rcases c with (c | c) | ⟨u, c1, c2⟩
        · exact ne (h.disj _ _ a c z)
        · rw [h.out _ a z] at c
          cases c
        · obtain ⟨u', e1, k⟩ := h.dom _ a z
          rw [c1] at e1
          cases e1
          exact k c2
    · cases q
theorem HeldF.repsT : ∀ {rs : List Slot} {vs : List V} {ds : List D}, vs.length = rs.length → HeldF K m B H fp σ ss (vs ++ tv) (rs ++ ts) → n < ts.length → isNs (.t n) rs ds → Low m ts.length → RepRs K (hless H (fp (.t n))) ds vs
  | [], [], [], _, _, _, _, _ => by unfold RepRs; rfl
  | r :: rs, v :: vs, d :: ds, e, h, hn, q, hm => by
    unfold RepRs
    refine ⟨v, vs, rfl, HeldF.topT h (by show n < (rs ++ ts).length; rw [List.length_append]; omega) q.1, ?_⟩
    exact HeldF.repsT (rs := rs) (vs := vs) (ds := ds) (by simpa using e) (HeldF.pop h (hm.app _)) hn q.2 hm
  | [], _ :: _, _, e, _, _, _, _ => nomatch e
  | _ :: _, [], _, e, _, _, _, _ => nomatch e
  | _ :: _, _ :: _, [], _, _, _, q, _ => q.elim
  | [], [], _ :: _, _, _, _, q, _ => q.elim
/-- what o owns is lent to a call that changes it -/
theorem HeldF.lendO (h : HeldF K m B H fp σ ss tv ts) (r0 : RepO K H d0 x (fp o)) (r : RepRs K (hless H (fp o)) ds vs) :
    Held K (fun k => k < 0) (hless H (fp o)) H ((x :: vs).map some) (.own d0 :: ds.map Slot.par) [] [] := by
  refine ⟨fun o' => if o' = .v 0 then fp o else [], hless_ex, by simp [r.length], rfl, Low.self, fun j s e => ?_, (fun k s e => by simp at e), fun o1 o2 a q1 q2 => ?_, fun o1 => ?_, fun o1 a q => ?_, fun o1 a q => ?_⟩
  · cases j with
    | zero =>
      cases e
      refine ⟨x, rfl, ?_⟩
      show RepO K H d0 x (if Own.v 0 = Own.v 0 then fp o else [])
      rw [if_pos rfl]
      exact r0
    | succ j =>
      rw [List.getElem?_cons_succ, List.getElem?_map] at e
      obtain ⟨d, e1, rfl⟩ := Option.map_eq_some_iff.mp e
      obtain ⟨w, e3, e4⟩ := r.get e1
      refine ⟨w, ?_, e4⟩
      rw [List.map_cons, List.getElem?_cons_succ, List.getElem?_map, e3]
      rfl
  · replace q1 : a ∈ (if o1 = Own.v 0 then fp o else []) := q1
    replace q2 : a ∈ (if o2 = Own.v 0 then fp o else []) := q2
    by_cases h1 : o1 = .v 0
    · by_cases h2 : o2 = .v 0
      · rw [h1, h2]
      · rw [if_neg h2] at q2; cases q2
    · rw [if_neg h1] at q1; cases q1
  · show (if o1 = Own.v 0 then fp o else []).Nodup
    split
    · exact h.nod _
    · exact List.nodup_nil
  · replace q : a ∈ (if o1 = Own.v 0 then fp o else []) := q
    split at q
    · exact hless_in q
    · cases q
  · replace q : a ∈ (if o1 = Own.v 0 then fp o else []) := q
    split at q
    · exact h.dom _ a q
    · cases q
/-- .. and is gone behind it -/
theorem HeldF.lentT (h : HeldF K m B H fp σ ss tv ts) (g : Held K (fun k => k < 0) (hless H (fp (.t ts.length))) H' ((x :: vs).map some) (.own d' :: rs) [v] [.own d]) : Held K m B H' σ ss (v :: tv) (.own d :: ts) := by
  obtain ⟨fc, g⟩ := g
  have h1 := h.clear (k := ts.length) (Nat.le_refl _)
  have sub : ∀ o a, a ∈ fupd fp (.t ts.length) [] o → a ∈ fp o ∧ a ∉ fp (.t ts.length) := fun o a q => by
    unfold fupd at q
    split at q
    · cases q
    · rename_i z
      exact ⟨q, fun y => z (h.disj _ _ a q y)⟩
  have old : ∀ a o, a ∉ fp (.t ts.length) → H a = some o → H' a = some o := fun a o n e => g.base a o (by rw [hless_at n]; exact e)
  have tk : TK H H' := fun a o e s => old a o (fun z => by
    obtain ⟨u, e1, n⟩ := h.dom _ a z
    rw [e] at e1
    cases e1
    exact n s) e
  have eb : Ex B H' := fun a u e => old a u (fun z => by rw [h.out _ a z] at e; cases e) (h.base a u e)
  have h2 := h1.heap tk eb fun o a q => by
    obtain ⟨q1, q2⟩ := sub o a q
    obtain ⟨u, e1, _⟩ := h.dom o a q1
    rw [e1, old a u q2 e1]
  obtain ⟨w, e3, r2⟩ := g.tmp 0 _ rfl
  have e4 : v = w := Option.some.inj e3
  subst e4
  have fr : ∀ a, a ∈ fc (.t 0) → a ∈ fp (.t ts.length) ∨ H a = none := fun a q => by
    by_cases z : a ∈ fp (.t ts.length)
    · exact .inl z
    · have e := g.out _ a q
      rw [hless_at z] at e
      exact .inr e
  refine ⟨_, h2.push r2 (g.nod _) (fun a ha o _ q => ?_) fun a ha => ?_⟩
  · obtain ⟨q1, q2⟩ := sub o a q
    rcases fr a ha with z | z
    · exact q2 z
    · obtain ⟨u, e1, _⟩ := h.dom o a q1
      rw [z] at e1
      cases e1
  · rcases fr a ha with z | z
    · exact h.out _ a z
    · cases eB : B a with
      | none => rfl
      | some u =>
        have := h.base a u eB
        rw [z] at this
        cases this
theorem RepOs.item {i : Nat} : ∀ {ds : List D} {vs : List V} {F : List Addr} {i : Nat} {d : D}, RepOs K H ds vs F → ds[i]? = some d → F.Nodup → ∃ w G, vs[i]? = some w ∧ RepO K H d w G ∧ (∀ a ∈ G, a ∈ F) ∧ G.Nodup
  | [], _, _, i, _, _, e, _ => by simp at e
  | d :: ds, _, _, i, d', h, e, nd => by
    unfold RepOs at h
    obtain ⟨w, ws, F1, F2, rfl, rfl, e3, e4⟩ := h
    have n3 := List.nodup_append.mp nd
    cases i with
    | zero =>
      have z : d = d' := by simpa using e
      subst z
      exact ⟨w, F1, rfl, e3, fun a ha => List.mem_append_left _ ha, n3.1⟩
    | succ i =>
      obtain ⟨u, G, h1, h2, h3, h4⟩ := RepOs.item (i := 0) e4 (by simpa using e) n3.2.1
      exact ⟨u, G, by simpa using h1, h2, fun a ha => List.mem_append_right _ (h3 a ha), h4⟩
end
section
variable {X : Cx} {fx : List Nat} {ss ts : List Slot} {Φ : List Slot → Slot → Prop} {Θ : List Slot → Bool → Prop} {e a b : Expr} {es : List Expr} {pos p : Pos} {x : Str} {k j : Nat} {ps : List Str} {f : Addr} {fd : FuncData} {dds : List D}
/-- f(e, ..), the value of e changed (and gone behind it) -/
theorem cCallT {FI : D → List D → (D → D → Prop) → Prop} (C : DefI X.prog X.w X.K X.mg X.base CX0 k x ps f fd dds FI) (hr : Room j X.A) (hj : k ≤ j)
    (h : EV X e ss ts fun s0 r0 => ∃ d0, r0 = .own d0 ∧ AV X es s0 (r0 :: ts) fun s rs => allNK (.t ts.length) rs fun ds => FI d0 (ds ++ dds) fun d' d => Φ s (.own d)) (hg : Gl X x := by rfl)
    (hdb : (x == ("__debug__" : Str)) = false := by decide) (he : starEach (e :: es) X.env = (false, eval e X.env) :: starEach es X.env := by rfl) (hpl : (backTo pos (starEach es X.env)).any (·.1) = false := by rfl) : EV X (.Call (.Name x p) (e :: es) [] pos) ss ts Φ := fun m B σ tv H Q hm hh kk => by
  obtain ⟨dvs, dfl, hb, hd, hdd⟩ := C.bd
  refine toE (pe_call C.ok (hr.mono hj) hg C.nm C.kp hb hd pass0 (pa_cons pe_w pa_w he) hdb he hpl) ?_
  refine h m B σ tv H _ hm hh fun s0 r0 x0 H1 ⟨d0, er, h1⟩ hh1 => ?_
  subst er
  refine h1 m B σ (x0 :: tv) H1 _ hm.up hh1 fun s rs vs H2 hq l1 l2 ⟨fp1, h2⟩ => ?_
  obtain ⟨ds, ia, hF⟩ := allNK_of hq
  have r1 := (HeldF.repsT (n := ts.length) (by simpa using l1) h2 (by rw [List.length_cons]; omega) ia.rev hm.up).rev
  rw [List.reverse_reverse, List.reverse_reverse] at r1
  have hp := HeldF.popN (rs := rs.reverse) (rv := vs.reverse) (by simpa using l1) h2 hm.up
  obtain ⟨w, e1, r0⟩ := hp.top
  have e2 : x0 = w := Option.some.inj e1
  subst e2
  refine ⟨_, _, HeldF.lendO hp r0 (ds := ds ++ dds) (r1.append (hdd _)), d0, ds ++ dds, _, rfl, hF, fun d' d q r H' g => ?_⟩
  exact kk _ (.own d) r H' q (HeldF.lentT (hp.pop hm) g)
/-- o[i] of a new list: the item is taken out -/
theorem eIxM (h : EV X a ss ts fun s1 r1 => EV X b s1 (r1 :: ts) fun s r2 => ∃ (l : List D) (i : Int) (d : D), r1 = .own (.lst l) ∧ r2 = .own (.int i) ∧ atI l i = some d ∧ Φ s (.own d)) (hs : PlainIx b := by intro _ _; rfl) : EV X (.Subscript a b pos) ss ts Φ := fun m B σ tv H Q hm hh k => by
  refine toE (pe_ix ix_seq pe_w pe_w hs) ?_
  refine h m B σ tv H _ hm hh fun s1 r1 x H1 h1 hh1 => ?_
  refine h1 m B σ (x :: tv) H1 _ hm.up hh1 fun s r2 y H2 ⟨l, i, d, e1, e2, hd, q⟩ hh2 => ?_
  subst e1 e2
  have iy := hh2.top (d := .int i) Slot.is_own
  rw [rep_int] at iy
  obtain ⟨fp, hf⟩ := hh2.pop hm.up
  obtain ⟨fp', F, h3, _, r3, nd, o3, b3, _⟩ := hf.take hm
  unfold RepO at r3
  obtain ⟨a, vs, G, rfl, ea, rfl, r4⟩ := r3
  have hl := r4.reps.length
  unfold atI at hd
  obtain ⟨j, j1, j2⟩ := Option.bind_eq_some_iff.mp hd
  obtain ⟨w, G1, w1, w2, w3, w4⟩ := RepOs.item (i := 0) r4 j2 (List.nodup_cons.mp nd).2
  have e5 : atI vs i = some w := by unfold atI; rw [hl, j1]; exact w1
  refine .inl ⟨a, vs, i, w, rfl, iy, SqL.of ea, e5, k s _ w H2 q ⟨_, h3.push w2 w4 (fun b hb o _ => o3 b (List.mem_cons_of_mem _ (w3 b hb)) o) fun b hb => b3 b (List.mem_cons_of_mem _ (w3 b hb))⟩⟩
end
/-! ### == where lists may be shared -/
mutual
/-- shared lists as lists -/
def D.th : D → D
  | .tup l => .tup (D.ths l)
  | .lst l => .lst (D.ths l)
  | .fz l => .lst (D.ths l)
  | .non => .non
  | .bl b => .bl b
  | .int i => .int i
  | .str x => .str x
  | .raw v => .raw v
  | .ins C ns l => .ins C ns l
  | .exc C ns l => .exc C ns l
def D.ths : List D → List D
  | [] => []
  | d :: ds => d.th :: D.ths ds
end
theorem D.ths_map : ∀ {l : List D}, D.ths l = l.map D.th
  | [] => by unfold D.ths; rfl
  | d :: l => by unfold D.ths; rw [D.ths_map]; rfl
mutual
theorem D.th_py : ∀ {d : D}, d.th.py = d.py
  | .non => by unfold D.th; rfl
  | .bl _ => by unfold D.th; rfl
  | .int _ => by unfold D.th; rfl
  | .str _ => by unfold D.th; rfl
  | .raw _ => by unfold D.th; rfl
  | .tup l => by unfold D.th D.py; rw [D.ths_py]
  | .lst l => by unfold D.th D.py; rw [D.ths_py]
  | .fz l => by unfold D.th D.py; rw [D.ths_py]
  | .ins _ _ _ => by unfold D.th; rfl
  | .exc _ _ _ => by unfold D.th; rfl
theorem D.ths_py : ∀ {l : List D}, D.pys (D.ths l) = D.pys l
  | [] => by unfold D.ths; rfl
  | d :: l => by unfold D.ths D.pys; rw [D.th_py, D.ths_py]
end
mutual
theorem D.th_id : ∀ {n : Nat} {d : D}, d.pl n = true → d.th = d
  | _, .non, _ => by unfold D.th; rfl
  | _, .bl _, _ => by unfold D.th; rfl
  | _, .int _, _ => by unfold D.th; rfl
  | _, .str _, _ => by unfold D.th; rfl
  | _, .raw _, _ => by unfold D.th; rfl
  | _, .fz _, h => by unfold D.pl at h; cases h
  | _, .ins _ _ _, _ => by unfold D.th; rfl
  | _, .exc _ _ _, _ => by unfold D.th; rfl
  | 0, .tup _, h => by unfold D.pl at h; cases h
  | 0, .lst _, h => by unfold D.pl at h; cases h
  | n + 1, .tup l, h => by unfold D.pl at h; unfold D.th; rw [D.ths_id h]
  | n + 1, .lst l, h => by unfold D.pl at h; unfold D.th; rw [D.ths_id h]
theorem D.ths_id : ∀ {n : Nat} {l : List D}, D.pls n l = true → D.ths l = l
  | _, [], _ => by unfold D.ths; rfl
  | n, d :: l, h => by
    unfold D.pls at h
    rw [Bool.and_eq_true] at h
    unfold D.ths
    rw [D.th_id h.1, D.ths_id h.2]
end
section
variable {X : Cx} {ss ts : List Slot} {Φ : List Slot → Slot → Prop} {Θ : List Slot → Bool → Prop} {a b : Expr} {pos : Pos}
theorem th_eqv {d e : D} {n m : Nat} (h1 : d.th.pl n = true) (h2 : e.th.pl m = true) {x y : PyData} (e1 : d.py = some x) (e2 : e.py = some y) : PyData.eqv x y = deq d.th e.th :=
  D.eqv_eq h1 h2 (D.th_py.trans e1) (D.th_py.trans e2)
theorem tNeF (hu : X.A.units + 64 < cLine) (h : EV X a ss ts fun s1 r1 => EV X b s1 (r1 :: ts) fun s r2 => d1K (fun d1 => d1K (fun d2 => d1.th.pl 16 = true ∧ d2.th.pl 16 = true ∧ Θ s (!deq d1.th d2.th)) r2) r1) : TV X (.Compare a [.NotEq] [b] pos) ss ts Θ :=
  tv_neD hu (h.imp fun s1 r1 h1 => h1.imp fun s r2 h2 => by
    obtain ⟨d1, e1, h3⟩ := d1K_of h2
    obtain ⟨d2, e2, p1, p2, q⟩ := d1K_of h3
    obtain ⟨x, x1, _, _⟩ := D.pl_py p1
    obtain ⟨y, y1, _, _⟩ := D.pl_py p2
    exact ⟨d1, d2, x, y, e1, e2, D.th_py.symm.trans x1, D.th_py.symm.trans y1, D.shaped_of p1 (by decide) x1, D.shaped_of p2 (by decide) y1, by rw [th_eqv p1 p2 (D.th_py.symm.trans x1) (D.th_py.symm.trans y1)]; exact q⟩)
theorem tEqF (hu : X.A.units + 64 < cLine) (h : EV X a ss ts fun s1 r1 => EV X b s1 (r1 :: ts) fun s r2 => d1K (fun d1 => d1K (fun d2 => d1.th.pl 16 = true ∧ d2.th.pl 16 = true ∧ Θ s (deq d1.th d2.th)) r2) r1) : TV X (.Compare a [.Eq] [b] pos) ss ts Θ :=
  tv_eqD hu (h.imp fun s1 r1 h1 => h1.imp fun s r2 h2 => by
    obtain ⟨d1, e1, h3⟩ := d1K_of h2
    obtain ⟨d2, e2, p1, p2, q⟩ := d1K_of h3
    obtain ⟨x, x1, _, _⟩ := D.pl_py p1
    obtain ⟨y, y1, _, _⟩ := D.pl_py p2
    exact ⟨d1, d2, x, y, e1, e2, D.th_py.symm.trans x1, D.th_py.symm.trans y1, D.shaped_of p1 (by decide) x1, D.shaped_of p2 (by decide) y1, by rw [th_eqv p1 p2 (D.th_py.symm.trans x1) (D.th_py.symm.trans y1)]; exact q⟩)
theorem tNeL {es : List Expr} {lp : Pos} (hu : X.A.units + 64 < cLine) (h : EV X a ss ts fun s1 r1 => AV X es s1 (r1 :: ts) fun s rs => d1K (fun d1 => allK rs fun ds => ds.length ≤ 1000 ∧ d1.th.pl 16 = true ∧ (D.lst ds).th.pl 16 = true ∧ Θ s (!deq d1.th (D.lst ds).th)) r1)
    (hb : behindInMarks .NotEq (.List es lp) = false := by rfl) : TV X (.Compare a [.NotEq] [.List es lp] pos) ss ts Θ := fun m B σ tv H Q hm hh k => by
  refine toT (pt_cmpR (op_neD hu) pe_w (pe_lst pa_w) hb) ?_
  refine h m B σ tv H _ hm hh fun s1 r1 x H1 h1 hh1 => ?_
  refine h1 m B σ (x :: tv) H1 _ hm.up hh1 fun s rs vs H2 hq l1 l2 hh2 => ?_
  obtain ⟨d1, e1, hq⟩ := d1K_of hq
  obtain ⟨ds, ia, hl, p1, p2, q⟩ := allK_of hq
  have hx := hh2.popA l1 hm.up
  have z1 := hx.top e1
  have z2 := hh2.argsOf l1 ia hm.up
  have l3 := z2.length
  refine ⟨Nat.le_trans (by omega : vs.length ≤ 1000) (by decide), fun p hp => ?_⟩
  have ex := Ex.new (o := .lst vs) hp
  obtain ⟨y1, f1, _, _⟩ := D.pl_py p1
  obtain ⟨y2, f2, _, _⟩ := D.pl_py p2
  have g1 := D.th_py.symm.trans f1
  have g2 := D.th_py.symm.trans f2
  refine ⟨y1, y2, D.dp (z1.mono ex) g1, D.dp (d := .lst ds) (by unfold RepR; exact ⟨p, vs, rfl, upd_same, z2.mono ex⟩) g2, D.shaped_of p1 (by decide) f1, D.shaped_of p2 (by decide) f2, _, rfl, ?_⟩
  refine k s _ _ ?_ ((hx.pop hm).ex ex)
  rw [th_eqv p1 p2 g1 g2]
  exact q
theorem tEqL {es : List Expr} {lp : Pos} (hu : X.A.units + 64 < cLine) (h : EV X a ss ts fun s1 r1 => AV X es s1 (r1 :: ts) fun s rs => d1K (fun d1 => allK rs fun ds => ds.length ≤ 1000 ∧ d1.th.pl 16 = true ∧ (D.lst ds).th.pl 16 = true ∧ Θ s (deq d1.th (D.lst ds).th)) r1)
    (hb : behindInMarks .Eq (.List es lp) = false := by rfl) : TV X (.Compare a [.Eq] [.List es lp] pos) ss ts Θ := fun m B σ tv H Q hm hh k => by
  refine toT (pt_cmpR (op_eqD hu) pe_w (pe_lst pa_w) hb) ?_
  refine h m B σ tv H _ hm hh fun s1 r1 x H1 h1 hh1 => ?_
  refine h1 m B σ (x :: tv) H1 _ hm.up hh1 fun s rs vs H2 hq l1 l2 hh2 => ?_
  obtain ⟨d1, e1, hq⟩ := d1K_of hq
  obtain ⟨ds, ia, hl, p1, p2, q⟩ := allK_of hq
  have hx := hh2.popA l1 hm.up
  have z1 := hx.top e1
  have z2 := hh2.argsOf l1 ia hm.up
  have l3 := z2.length
  refine ⟨Nat.le_trans (by omega : vs.length ≤ 1000) (by decide), fun p hp => ?_⟩
  have ex := Ex.new (o := .lst vs) hp
  obtain ⟨y1, f1, _, _⟩ := D.pl_py p1
  obtain ⟨y2, f2, _, _⟩ := D.pl_py p2
  have g1 := D.th_py.symm.trans f1
  have g2 := D.th_py.symm.trans f2
  refine ⟨y1, y2, D.dp (z1.mono ex) g1, D.dp (d := .lst ds) (by unfold RepR; exact ⟨p, vs, rfl, upd_same, z2.mono ex⟩) g2, D.shaped_of p1 (by decide) f1, D.shaped_of p2 (by decide) f2, _, rfl, ?_⟩
  refine k s _ _ ?_ ((hx.pop hm).ex ex)
  rw [th_eqv p1 p2 g1 g2]
  exact q
end
end DL
/-! The data layer, part E1: enumerate of a text. -/
namespace DL
open PySem PySem.Spec PyProof.Rows L2
/-- the signs of x, each in a new pair -/
def IteS (x : Str) : It := ⟨fun i _ => i < x.cps.size, fun i H v H' => ∃ T c, v = .ref T ∧ H T = none ∧ H' = upd H T (.tup [.int (i : Nat), .str ⟨#[c]⟩]) ∧ x.cps[i]? = some c, fun i _ => x.cps.size ≤ i⟩
def SgnP (x : Str) (i : Nat) (v : Value) : Prop := ∃ c u, x.cps[i]? = some c ∧ v = .str ⟨#[c]⟩ u
theorem draws_str {prog : Program} {w : World} {A : Around} (hh : A.handled = none) (it : Addr) (x : Str) (t : Tok) : Draws prog w A it [it] x.cps.size (SgnP x) (fun i h => h.IsStrIter it (strIterType x) x t i) := by
  unfold strIterType
  cases x.cps.all (· < 128) with
  | true => exact Draws.strAscii hh it x t
  | false => exact Draws.strWide hh it x t
theorem turn_enumS {P : Program} {w : World} {K : PySem.W.Frag} {elts : List Expr} {kk : Nat} {tpos : Pos} (e it : Addr) (x : Str) (t : Tok) :
    Turn P w K (.Tuple elts kk tpos) (IteS x) [e, it] e (fun i h => (∃ old, IsEnum h e it ((i : Nat) : Int) old) ∧ h.IsStrIter it (strIterType x) x t i ∧ e ≠ it ∧ i ≤ x.cps.size) where
  mem := by simp
  obj := fun i h st b hb => by
    obtain ⟨⟨old, he⟩, ⟨o, ho, hc, hd⟩, _⟩ := st
    have e' : b = e ∨ b = it := by simpa using hb
    rcases e' with z | z
    · rw [z]; exact ⟨_, he, fun v q => nomatch q⟩
    · rw [z]; exact ⟨o, ho, fun v q => by rw [hd] at q; cases q⟩
  keep := fun i h h' st k => let ⟨⟨old, he⟩, ⟨o, ho, hr⟩, hne⟩ := st; ⟨⟨old, k e (by simp) _ he⟩, ⟨o, k it (by simp) o ho, hr⟩, hne⟩
  item := by
    intro X hP hw hK hc i pins s σ H E I hf st hg
    subst hP hw hK
    obtain ⟨⟨old, he⟩, hit, hne, hle⟩ := st
    have hel : e < s.heap.objs.size := Heap.lt_size he
    have hil : it < s.heap.objs.size := by obtain ⟨_, q, _⟩ := hit; exact Heap.lt_size q
    refine wpAny_pyNext_enum_itemD (draws_str (prog := X.prog) (w := X.w) (A := X.A.in1) (I.ok.hd hc) it x t) he hit hg hne (by simpa using hne) fun v h' tk hv ho hit' hT hsz hk => ?_
    obtain ⟨c, u, hx, rfl⟩ := hv
    refine ⟨_, rfl, wpAny_letOwnedTupleGo_enum (s := { s with heap := h', toks := tk + 1 }) ho fun h'' he' sb => ?_⟩
    have hT2 : h''.get? s.heap.objs.size = some { cls := .type "tuple", data := .seq #[.int i tk, .str ⟨#[c]⟩ u] } := (sb.2 _ (Nat.ne_of_gt hel)).trans hT
    have new : ObjOk X.prog X.w (upd H s.heap.objs.size (.tup [.int (i : Nat), .str ⟨#[c]⟩])) h'' s.heap.objs.size (.tup [.int (i : Nat), .str ⟨#[c]⟩]) :=
      ⟨by show 2 ≤ sizeLine; decide, [.int i tk, .str ⟨#[c]⟩ u], .cons ⟨_, rfl⟩ (.cons ⟨u, rfl⟩ .nil), ⟨_, hT2, rfl, _, rfl⟩⟩
    have I1 : Inv X pins σ (upd H s.heap.objs.size (.tup [.int (i : Nat), .str ⟨#[c]⟩])) { s with heap := h'', toks := tk + 1 } :=
      I.turnedNew (ch := [e, it]) (fun b ob hb q => (sb.2 b (fun z => hb (by simp [z]))).trans (hk b ob (fun z => hb (by simp [z])) (fun z => hb (by simp [z])) q)) hf (Nat.le_refl _) new
    refine ⟨.ref s.heap.objs.size, _, I1, rfl, ⟨_, c, rfl, I.hok.fresh (Nat.le_refl _), rfl, hx⟩, ⟨⟨.str ⟨#[c]⟩ u, ?_⟩, ?_, hne, hg⟩, fun b hb => ?_⟩
    · have e1 : ((i + 1 : Nat) : Int) = (i : Int) + 1 := by omega
      rw [e1]; exact he'
    · obtain ⟨o, q, r⟩ := hit'
      exact ⟨o, (sb.2 it (Ne.symm hne)).trans q, r⟩
    · have e' : b = e ∨ b = it := by simpa using hb
      have hb' : b < s.heap.objs.size := by
        rcases e' with z | z
        · rw [z]; exact hel
        · rw [z]; exact hil
      rw [upd_ne (Nat.ne_of_lt hb')]
      exact (hf b hb).1
  done := by
    intro X hP hw hK hc i pins s σ H E I hf st hg
    subst hP hw hK
    obtain ⟨⟨old, he⟩, hit, hne, hle⟩ := st
    obtain ⟨f0, f1, f2, f3, f4, f5⟩ := hf it (by simp)
    have ei : i = x.cps.size := Nat.le_antisymm hle hg
    rw [ei] at hit
    exact wpAny_pyNext_enum_endD (draws_str (prog := X.prog) (w := X.w) (A := X.A.in1) (I.ok.hd hc) it x t) he hit fun h' eb => ⟨rfl, I.turned (t' := s.toks) (fun b o hb q => eb b o hb q) f0 f1 f3 f4 f5⟩
  self := fun A i s Q E st h => let ⟨⟨_, he⟩, _⟩ := st; wpAny_pyIter_enum he h
def iEnumS (ta : TA) : TI := fun σ H R => ta σ H fun vs H1 => ∃ x, vs = [.str x] ∧ R (IteS x) H1
theorem pi_enumS {X : Cx} {e : Expr} {ta : TA} {p pos tpos : Pos} {elts : List Expr} {kk : Nat} (hg : Gl X "enumerate") (hm : X.mg "enumerate" = none) (ha : PA X [e] ta) (hs : starEach [e] X.env = [(false, eval e X.env)] := by rfl) :
    PI X (.Tuple elts kk tpos) (.Call (.Name "enumerate" p) [e] [] pos) (iEnumS ta) := by
  refine ⟨fun pins s σ H R I h => ?_⟩
  refine Call_ (ld_blt I hg hm boot_enumerate (PyProof.Rows.callWith_type1 (thn (ha.run pos pins s σ H _ I h) fun us s1 ⟨vs, H1, I1, r1, x, ex, q⟩ => ?_) hs rfl))
  subst ex
  obtain ⟨u, rfl, t, rfl⟩ := vals1 r1
  refine call_enumerate_str fun h' he hit hsz hk => wpAny_pyIter_enum he ?_
  have I2 : Inv X pins σ H1 { s1 with heap := h' } := I1.kept (t' := s1.toks) hk
  refine ⟨s1.heap.objs.size + 1, [s1.heap.objs.size + 1, s1.heap.objs.size], _, _, H1, rfl, I2, turn_enumS (s1.heap.objs.size + 1) s1.heap.objs.size x t, ⟨⟨.none, he⟩, hit, Nat.succ_ne_self _, Nat.zero_le _⟩, fun b hb => ?_, q⟩
  have hle : s1.heap.objs.size ≤ b := by
    have e' : b = s1.heap.objs.size + 1 ∨ b = s1.heap.objs.size := by simpa using hb
    rcases e' with z | z
    · rw [z]; exact Nat.le_add_right _ _
    · rw [z]; exact Nat.le_refl _
  exact I1.fpOk hle (I1.hok.fresh hle)
section
variable {X : Cx} {ss ts : List Slot} {l : Expr} {p pos tpos : Pos} {elts : List Expr} {kk : Nat} {Ψ : List Slot → List Slot → List El → Prop}
/-- enumerate(l), l a text -/
theorem wEnumS (hm : X.mg "enumerate" = none) (h : EV X l ss ts fun s r => s1K (fun x => Ψ s [] (x.cps.toList.zipIdx.map fun p => .two (.own (.int ((p.2 : Nat) : Int))) (.own (.str ⟨#[p.1]⟩)))) r) (hg : Gl X "enumerate" := by rfl)
    (hs : starEach [l] X.env = [(false, eval l X.env)] := by rfl) : IV X (.Tuple elts kk tpos) (.Call (.Name "enumerate" p) [l] [] pos) ss ts Ψ := fun m B σ tv H R hm' hh k => by
  refine toI (pi_enumS hg hm (pa_cons pe_w pa_nil hs) hs) ?_
  refine h m B σ tv H _ hm' hh fun s r v H1 hq h1 => ?_
  obtain ⟨x, e, q⟩ := s1K_of hq
  have z := h1.top (d := .str x) (by rw [e]; exact Slot.is_own)
  rw [rep_str] at z
  refine ⟨x, by rw [z], k s [] [] _ _ H1 q rfl (h1.pop hm') ?_⟩
  intro m' B' H' σ' ss' ev es tv' ts' h' hlen hle hmm
  refine ⟨fun i el hi => ?_, fun i hi => ?_⟩
  · obtain ⟨pr, hpr, rfl⟩ := els_get hi
    rw [List.getElem?_zipIdx] at hpr
    obtain ⟨c, hc, rfl⟩ := Option.map_eq_some_iff.mp hpr
    have hlt := getElem?_lt hc
    rw [Array.length_toList] at hlt
    refine ⟨hlt, fun y H2 ⟨T, c', ey, hT, eH, hc'⟩ => ?_⟩
    subst ey eH
    have e1 : c' = c := by
      rw [Array.getElem?_toList] at hc
      rw [hc] at hc'
      exact (Option.some.inj hc').symm
    subst e1
    have ex := Ex.new (o := .tup [.int ((i : Nat) : Int), .str ⟨#[c']⟩]) hT
    refine ⟨T, .int ((i : Nat) : Int), .str ⟨#[c']⟩, rfl, .inl (.inl upd_same), ?_⟩
    have e2 : (0 + i) = i := Nat.zero_add i
    dsimp only
    rw [e2]
    exact ((h'.ex ex).pushF o_int).pushF o_str
  · rw [List.length_map, List.length_zipIdx, Array.length_toList] at hi
    exact hi
theorem els_enumS {x : Str} {i : Nat} {el : El} (h : (x.cps.toList.zipIdx.map fun p => El.two (.own (.int ((p.2 : Nat) : Int))) (.own (.str ⟨#[p.1]⟩)))[i]? = some el) : ∃ c, x.cps.toList[i]? = some c ∧ el = .two (.own (.int (i : Int))) (.own (.str ⟨#[c]⟩)) := by
  obtain ⟨pr, hpr, rfl⟩ := els_get h
  rw [List.getElem?_zipIdx] at hpr
  obtain ⟨c, hc, rfl⟩ := Option.map_eq_some_iff.mp hpr
  exact ⟨c, hc, by simp only [Nat.zero_add]⟩
end
end DL
/-! The data layer, part N1: != by an own __eq__. -/
namespace DL
open PySem PySem.Calls PySem.Spec PyProof.Rows PySem.W Builtin
section
variable {prog : Program} {w : World} {A : Around} {E : Value → Shared → Prop} {s : Shared} {K : Frag} {x C L f : Addr} {h₀ : Heap} {m : Str → Option Value} {ox : Obj} {od : Option Obj} {b tb : Value}
theorem check_ne {M : Model} {Q : Unit → Shared → Prop} (X : K.In s.heap) (I : InstAt s.heap x ox C od) (hm : mroIn K C (.type "object") = some true) (hq : Q () s) :
    wpAny M A (checkBuiltinCall "object.__ne__" ⟨[.ref x, b], []⟩) Q E s := by
  have ha := F.cmpArgs_ne (.ref x) b
  simp only [checkBuiltinCall, F.cmpKind_ne, F.cmpSplit_ne]
  refine wpAny_bind ?_
  have LI : Looks M s.heap (isInstance (.ref x) (.type "object")) true := (I.type (M := M)).andThen (looks_mroIn X hm)
  refine LI.here ?_
  simp only [Bool.not_true, Bool.false_eq_true, if_false]
  cases hsig : Manifest.signature? "object.__ne__" with
  | none => exact wpAny_pure hq
  | some sig =>
    simp only [argsOk, hsig] at ha
    have h2 : Bind.checkArgs "object.__ne__" sig ⟨[.ref x, b], []⟩ = pure () := ha
    show wpAny M A (Bind.checkArgs "object.__ne__" sig ⟨[.ref x, b], []⟩) Q E _
    rw [h2]; exact wpAny_pure hq
def NotBack (Q : Value → Shared → Prop) (v : Value) (s' : Shared) : Prop := match v with
  | .bool r => Q (.bool (!r)) s'
  | _ => False
theorem obj_ne {Q : Value → Shared → Prop} (hu : A.in1.units < cLine) (X : K.In s.heap) (I : InstAt s.heap x ox C od) (hs : findIn K (.ref C) "__eq__" = some (some (.ref f))) (hf : isFn K (.ref f) = true) (hm : mroIn K C (.type "object") = some true)
    (h : wpAny (model prog w) A.in1 (call (.ref f) [.ref x, b]) (NotBack Q) E s) : wpAny (model prog w) A (call (.builtin "object.__ne__") [.ref x, b]) Q E s := by
  refine wpAny_call (codeAny_call_builtin F.cmp_object.ne.plain F.cmpEntry_ne (check_ne X I hm ?_))
  unfold Builtin.«object.__ne__»
  refine wpAny_bind (m := slotArgs _ _ _) (wpAny_pure ?_)
  refine wpAny_bind (wpAny_cRoomFor hu ?_)
  refine wpAny_bind (ifBound_K X I hs hf (wpAny_mono h (fun v s' hv => ?_) fun _ _ e => e))
  cases v <;> first | exact hv.elim | skip
  rename_i r
  refine wpAny_bind (wpAny_pure ?_)
  exact wpAny_pure hv
theorem ifBound_ne {M : Model} {args : List Value} {Q : Option Value → Shared → Prop} (X : K.In s.heap) (I : InstAt s.heap x ox C od) (hN : findIn K (.ref C) "__ne__" = some (some (.builtin "object.__ne__")))
    (h : wpAny M A (call (.builtin "object.__ne__") (.ref x :: args)) (fun v => Q (some v)) E s) : wpAny M A (callSpecialIfBound? (.ref x) "__ne__" args) Q E s := by
  simp only [callSpecialIfBound?, bindSpecialIfBound?]
  refine wpAny_holding (wpAny_bind (wpAny_bind (wpAny_bind (I.type.here ((looks_findIn X hN).here ?_)))))
  refine wpAny_bind (wpAny_askSetting (wpAny_ite ?_))
  have fin : wpAny M A (call (.builtin "object.__ne__") ([.ref x] ++ args) >>= fun v => pure (some v)) Q E s := wpAny_bind (wpAny_mono h (fun v s' h' => wpAny_pure h') fun _ _ h' => h')
  simp only [F.cmp_object.ne.bind]
  split
  · exact wpAny_bind (wpAny_pure (wpAny_pure fin))
  · exact wpAny_tryCatch (wpAny_bind (wpAny_pure (wpAny_pure fin)))
theorem ne_K {Q : Value → Shared → Prop} (hu : A.units < cLine) (hu1 : A.in1.units < cLine) (Fm : Fr h₀ L s.heap m) (X₀ : K.In h₀) (I : InstAt s.heap x ox C od) (hb : Looks (model prog w) s.heap (typeOf b) tb) (hn : notFirst K C tb = true) (hN : findIn K (.ref C) "__ne__" = some (some (.builtin "object.__ne__")))
    (hs : findIn K (.ref C) "__eq__" = some (some (.ref f))) (hf : isFn K (.ref f) = true) (hm : mroIn K C (.type "object") = some true)
    (h : wpAny (model prog w) A.in1 (call (.ref f) [.ref x, b]) (NotBack Q) E s) : wpAny (model prog w) A (richCompare .NotEq (.ref x) b) Q E s := by
  have X := X₀.keeps Fm.keep
  have one : wpAny (model prog w) A (tryCompare (.ref x) (cmpInfo .NotEq).2.1 b) (fun r s' => ∃ v, r = some v ∧ Q v s') E s := by
    unfold tryCompare
    refine wpAny_bind (ifBound_ne X I hN (obj_ne hu1 X I hs hf hm (wpAny_mono h (fun v s' hv => ?_) fun _ _ e => e)))
    cases v <;> first | exact hv.elim | skip
    exact wpAny_pure ⟨_, rfl, hv⟩
  unfold richCompare
  simp only [oneThing_ref]
  refine wpAny_holding (wpAny_bind (wpAny_cRoomFor hu ?_))
  refine wpAny_bind (I.type.here (wpAny_bind (hb.here ?_)))
  split
  · rename_i q
    have e : subIn K tb (.ref C) = some false := by
      rcases Bool.or_eq_true_iff.mp hn with e | e
      · rw [beq_iff_eq.mp e] at q; simp at q
      · exact beq_iff_eq.mp e
    refine wpAny_bind ((looks_subIn X e).here ?_)
    simp only [Bool.false_eq_true, if_false]
    refine wpAny_bind (wpAny_mono one (fun r s' z => ?_) fun _ _ e => e)
    obtain ⟨v, rfl, hq⟩ := z
    exact wpAny_pure hq
  · refine wpAny_bind (wpAny_pure ?_)
    simp only [Bool.false_eq_true, if_false]
    refine wpAny_bind (wpAny_mono one (fun r s' z => ?_) fun _ _ e => e)
    obtain ⟨v, rfl, hq⟩ := z
    exact wpAny_pure hq
end
end DL
/-! The data layer, part N2: == and != of instances by their own __eq__. -/
namespace DL
open PySem PySem.Spec PyProof.Rows L2
section
variable {X : Cx} {C f : Addr} {fd : FuncData} {ps : List Str} {n j : Nat} {F : List D → (D → Prop) → Prop}
def rInsB (K : PySem.W.Frag) (C : Addr) (F : List D → (D → Prop) → Prop) (g : Bool → Bool) : R2 := fun x y H Q => ∃ a b dx dy fs gs, x = .ref a ∧ y = .ref b ∧ H a = some (.ins C dx fs) ∧ H b = some (.ins C dy gs) ∧ spP K F [.ref a, .ref b] H (fun v H' => ∃ t, v = .bl t ∧ Q (.bl (g t)) H') E0
/-- what != needs beside -/
structure NeK (K : PySem.W.Frag) (C : Addr) : Prop where
  ne : PySem.W.findIn K (.ref C) "__ne__" = some (some (.builtin "object.__ne__"))
  ob : PySem.W.mroIn K C (.type "object") = some true
theorem run_eq (M : MethAt X.prog X.w X.K X.mg X.base n C "__eq__" ps f fd [] F) {A : Around} (hr : Room n A) (hA : A.frames = X.A.frames) {pins : List (Addr × Obj)} {s : Shared} {σ : L2.St} {H : Hp} {a b : Addr} {Q : VK} (I : Inv X pins σ H s) (hsp : spP X.K F [.ref a, .ref b] H Q E0) {E : Value → Shared → Prop} :
    wpAny (model X.prog X.w) A (call (.ref f) [.ref a, .ref b]) (EP X pins σ Q) E s := by
  obtain ⟨dvs, dfl, b1, b2, b3⟩ := M.bd
  have hd : dvs = [] := by
    have := (b3 H).length
    exact List.length_eq_zero_iff.mp (by simpa using this)
  subst hd
  cases b2
  have e0 : Env0 X.prog X.w X.K X.mg X.base A X.stack s H := by
    have e := I.env0
    exact ⟨by rw [hA]; exact e.frames, e.mod, e.bs, e.bsz, e.funs, e.frf, e.hok, e.bare⟩
  have hl := M.ok.len _ _ _ _ hsp
  have r2 : Vals [V.ref a, V.ref b] [Value.ref a, Value.ref b] := .cons rfl (.cons rfl .nil)
  refine wpAny_call (codeAny_mono (M.ok.run A X.stack s H ⟨[.ref a, .ref b], []⟩ [.ref a, .ref b] [.ref a, .ref b] _ E0 hr e0 (by
    have := b1 s [.ref a, .ref b] I.kIn (by simpa using hl)
    simpa using this) r2 hsp) fun r s' hq => ?_)
  cases r with
  | error e => exact hq.elim
  | ok fl =>
    cases fl with
    | ret w => exact I.after hq
    | next => exact False.elim hq
    | brk => exact False.elim hq
    | cont => exact False.elim hq
theorem op_insEq (M : MethAt X.prog X.w X.K X.mg X.base n C "__eq__" ps f fd [] F) (hr : Room (n + 1) X.A) : OpR X (compareOp .Eq) (rInsB X.K C F id) := by
  intro pins s σ H x y v u Q I rx ry h
  obtain ⟨a, b, dx, dy, fs, gs, rfl, rfl, ha, hb, hsp⟩ := h
  cases rx
  cases ry
  obtain ⟨mA, J, _⟩ := ins_get I.hok ha
  obtain ⟨mB, J', _⟩ := ins_get I.hok hb
  obtain ⟨od, J, _⟩ := J.look
  obtain ⟨od', J', _⟩ := J'.look
  obtain ⟨m, hF⟩ := I.fr
  show wpAny (model X.prog X.w) X.A (richCompare .Eq _ _) _ _ _
  refine PySem.W.cmp_K (op := .Eq) (tb := .ref C) hr.units0 hF I.ok.mod.kin J J'.type (by simp [PySem.W.notFirst]) M.me.at_ M.me.fn ?_
  refine wpAny_mono (run_eq M (hr.mono (Nat.le_succ n)) rfl I hsp) (fun w s' ⟨z, H', I', rz, t, ez, q⟩ => ?_) fun _ _ e => e
  subst ez
  cases rz
  exact ⟨.bl t, H', I', rfl, q⟩
theorem op_insNe (M : MethAt X.prog X.w X.K X.mg X.base n C "__eq__" ps f fd [] F) (N : NeK X.K C) (hr : Room (n + 1) X.A) : OpR X (compareOp .NotEq) (rInsB X.K C F not) := by
  intro pins s σ H x y v u Q I rx ry h
  obtain ⟨a, b, dx, dy, fs, gs, rfl, rfl, ha, hb, hsp⟩ := h
  cases rx
  cases ry
  obtain ⟨mA, J, _⟩ := ins_get I.hok ha
  obtain ⟨mB, J', _⟩ := ins_get I.hok hb
  obtain ⟨od, J, _⟩ := J.look
  obtain ⟨od', J', _⟩ := J'.look
  obtain ⟨m, hF⟩ := I.fr
  show wpAny (model X.prog X.w) X.A (richCompare .NotEq _ _) _ _ _
  refine ne_K (tb := .ref C) hr.units0 hr.in1.units0 hF I.ok.mod.kin J J'.type (by simp [PySem.W.notFirst]) N.ne M.me.at_ M.me.fn N.ob ?_
  refine wpAny_mono (run_eq M hr.in1 rfl I hsp) (fun w s' ⟨z, H', I', rz, t, ez, q⟩ => ?_) fun _ _ e => e
  subst ez
  cases rz
  exact ⟨.bl (!t), H', I', rfl, q⟩
end
section
variable {X : Cx} {C : Addr} {F : List D → (D → Prop) → Prop} {g : Bool → Bool} {op : CmpOp} {ss ts : List Slot} {Θ : List Slot → Bool → Prop} {Φ : List Slot → Slot → Prop} {a b : Expr} {pos : Pos}
/-- two instances compared, as a test -/
theorem tIns (ho : OpR X (compareOp op) (rInsB X.K C F g)) (h : EV X a ss ts fun s1 r1 => EV X b s1 (r1 :: ts) fun s r2 => insK C (fun ns l => insK C (fun ns2 l2 => F [.ins C ns l, .ins C ns2 l2] fun d => ∃ t, d = .bl t ∧ Θ s (g t)) r2) r1)
    (hb : behindInMarks op b = false := by rfl) : TV X (.Compare a [op] [b] pos) ss ts Θ := fun m B σ tv H Q hm hh k => by
  refine toT (pt_cmpR ho pe_w pe_w hb) ?_
  refine h m B σ tv H _ hm hh fun s1 r1 x H1 h1 hh1 => ?_
  refine h1 m B σ (x :: tv) H1 _ hm.up hh1 fun s r2 y H2 h2 hh2 => ?_
  obtain ⟨ns, l, i1, h3⟩ := insK_of h2
  obtain ⟨ns2, l2, i2, hF⟩ := insK_of h3
  have z1 := hh2.top2 i1
  have z2 := hh2.top i2
  have y1 := z1
  have y2 := z2
  unfold RepR at y1 y2
  obtain ⟨A1, dx, fs, rfl, ea, _, _⟩ := y1
  obtain ⟨A2, dy, gs, rfl, eb, _, _⟩ := y2
  refine ⟨A1, A2, dx, dy, fs, gs, rfl, rfl, ea, eb, ?_⟩
  refine spP_use (reps_cons z1 (reps_cons z2 reps_nil)) hF fun d u H3 ⟨t, ed, q⟩ nw => ?_
  subst ed
  obtain ⟨e3, FF, r3, _, _⟩ := id nw
  have eu : u = .bl t := by
    unfold RepO at r3
    exact r3.1
  subst eu
  exact ⟨t, rfl, g t, rfl, k s (g t) H3 q (((hh2.pop hm.up).pop hm).ex e3)⟩
end
end DL
/-! The data layer, part N3: isinstance of an instance. -/
namespace DL
open PySem PySem.Spec PyProof.Rows L2
section
variable {X : Cx} {ss ts : List Slot} {Φ : List Slot → Slot → Prop} {e : Expr} {pos p px : Pos} {x : Str} {C : Addr}
/-- isinstance(e, C), e an instance of C -/
theorem eIsIns (c : C8.InsC X.K C) (hi : X.mg "isinstance" = none) (hm : X.mg x = some (.ref C)) (h : EV X e ss ts fun s r => insK C (fun _ _ => Φ s (.own (.bl true))) r)
    (hg : Gl X "isinstance" := by rfl) (hgx : Gl X x := by rfl) (hd : (x == ("__debug__" : Str)) = false := by decide)
    (hs : starEach [e, .Name x px] X.env = (false, eval e X.env) :: starEach [.Name x px] X.env := by rfl) (hs2 : starEach [.Name x px] X.env = (false, eval (.Name x px) X.env) :: starEach [] X.env := by rfl) (hpl : (backTo pos (starEach [.Name x px] X.env)).any (·.1) = false := by rfl) : EV X (.Call (.Name "isinstance" p) [e, .Name x px] [] pos) ss ts Φ := by
  refine fun m B σ tv H Q hm' hh kk => ?_
  refine toE (pe_callB (C8.call_isC c) hg hi (by decide +kernel) (pa_cons pe_w (pa_cons pe_w pa_nil hs2) hs) (he := hs) (hpl := hpl)) ?_
  refine h m B σ tv H _ hm' hh fun s1 r1 v H1 h1 hh1 => ?_
  obtain ⟨ns, l, i0, q⟩ := insK_of h1
  refine ev_cls (ts := r1 :: ts) hm (Φ := fun s r => s = s1 ∧ r = .own (.raw (.ref C))) ⟨rfl, rfl⟩ hgx hd m B σ (v :: tv) H1 _ hm'.up hh1 fun s2 r2 u H2 ⟨e1, e2⟩ hh2 => ?_
  subst e1 e2
  have zu := hh2.top Slot.is_own
  rw [rep_raw] at zu
  subst zu
  have zv := hh2.top2 i0
  unfold RepR at zv
  obtain ⟨a, dx, fs, rfl, ea, _, _⟩ := zv
  exact ⟨a, dx, fs, rfl, ea, kk s2 _ _ H2 q (((hh2.pop hm'.up).pop hm').pushF o_bl)⟩
end
end DL
/-! The data layer, part E2: methods with keywords, join, clear, [x, e][b]. -/
namespace DL
open PySem PySem.Spec PyProof.Rows L2
/-- a method as a call with keywords alone sees it -/
structure MethK (P : Program) (w : World) (K : PySem.W.Frag) (mg : Str → Option Value) (base : Heap) (k : Nat) (C : Addr) (m : Str) (ps : List Str) (f : Addr) (fd : FuncData) (ks : List Str) (is : List Nat) (dds : List D) (F : List D → (D → Prop) → Prop) : Prop where
  ok : FnOk P w K mg base CX0 k f fd ps (spP K F)
  cl : Cls K C
  me : Meth K C m f
  kb : ∃ (its : List Value) (dvs : List V), KBn K fd ps 1 ks (fun us ws => pick is (us ++ its ++ ws)) (fun vs zs => pick is (vs ++ dvs ++ zs)) ∧ ∀ H, RepRs K H dds dvs
section
variable {X : Cx} {k j : Nat} {fa C : Addr} {fd : FuncData} {ps ks : List Str} {is : List Nat} {m : Str} {e o e2 b : Expr} {es : List Expr} {apos pos : Pos} {ss ts : List Slot} {Φ : List Slot → Slot → Prop} {dds : List D} {kws : List Keyword}
/-- o.m(k = v, ..) -/
theorem cMethK {F : List D → (D → Prop) → Prop} (M : MethK X.prog X.w X.K X.mg X.base k C m ps fa fd ks is dds F) (hr : Room j X.A) (hj : k ≤ j) {pl : Sem Bool}
    (h : EV X o ss ts fun s0 r0 => insK C (fun ns l => m ∉ ns ∧ KV X kws s0 (r0 :: ts) fun s rs => allK rs fun ds => ds.length = ks.length ∧ F (pick is (.ins C ns l :: (dds ++ ds))) fun d => Φ s (.own d)) r0)
    (hall : (backToKw pos (keywordEach kws X.env)).all (·.1.isSome) = true := by rfl) (hks : (backToKw pos (keywordEach kws X.env)).filterMap (·.1) = ks := by rfl)
    (hpl : ((backTo pos (starEach [] X.env)).any (·.1) || (backToKw pos (keywordEach kws X.env)).any (·.1.isNone)) = false := by rfl)
    (ht : eval (.Call (.Attribute o m apos) [] kws pos) X.env = (do
      let ov ← eval o X.env
      standAt apos.atName
      let (f, first) ← holding [ov] (getMethod ov m pl)
      callWith pos f first (backTo pos (starEach [] X.env)) (backToKw pos (keywordEach kws X.env))) := by rfl) : EV X (.Call (.Attribute o m apos) [] kws pos) ss ts Φ := fun mm B σ tv H Q hm hh kk => by
  obtain ⟨its, dvs, b1, b2⟩ := M.kb
  intro pins s I
  refine PySem.W.methodCall_KW (pl := pl) (thn (h mm B σ tv H (fun x H1 => ∃ s0 r0, Held X.K mm B H1 σ s0 (x :: tv) (r0 :: ts) ∧ insK C (fun ns l => m ∉ ns ∧ KV X kws s0 (r0 :: ts) fun s rs => allK rs fun ds => ds.length = ks.length ∧ F (pick is (.ins C ns l :: (dds ++ ds))) fun d => Φ s (.own d)) r0) hm hh (fun s0 r0 x H1 q hh1 => ⟨s0, r0, hh1, q⟩) pins s I) fun u s1 ⟨x, H1, I1, rx, s0, r0, hh1, hq⟩ => ?_) ht
  obtain ⟨ns, l, ir, hn, hkv⟩ := insK_of hq
  have z := hh1.top ir
  have z0 := z
  unfold RepR at z
  obtain ⟨a, dx, fs, rfl, ea, en, _⟩ := z
  obtain rfl : u = Value.ref a := rx
  have lk : fs.lookup m = none := by
    cases q : fs.lookup m with
    | none => rfl
    | some v =>
      have := PySem.mem_of_lookup q
      exact absurd (by rw [← en]; exact List.mem_map.mpr ⟨(m, v), this, rfl⟩) hn
  refine getmeth_ok I1 ea M.cl M.me lk ?_
  refine PySem.W.callWith_KW0 (first := [.ref a]) (h₀ := X.base) I1.ok.mod.kin M.me.kp hall ?_ hpl
  refine thn (pk_w.run pos pins s1 σ H1 (fun zs H2 => spP X.K F (pick is ([V.ref a] ++ dvs ++ zs)) H2 Q E0 ∧ zs.length = ks.length) I1 (hkv mm B σ (.ref a :: tv) H1 _ hm.up hh1 fun s2 rs vs H2 hq2 l1 l2 hh2 => ?_)) fun ws s2 ⟨zs, H2, I2, rz, q2, l3⟩ => ⟨I2.kIn, ?_⟩
  · obtain ⟨ds, ia, hl, hF⟩ := allK_of hq2
    have hp := hh2.popA l1 hm.up
    have ra : RepR X.K H2 (.ins C ns l) (.ref a) := hp.top ir
    have rv := hh2.argsOf l1 ia hm.up
    refine ⟨spP_use (ds := pick is (.ins C ns l :: (dds ++ ds))) (pick_reps (by rw [List.append_assoc]; exact reps_cons ra ((b2 H2).append rv))) hF fun d v H3 q n => ?_, by rw [l1, ia.len, hl]⟩
    exact kk s2 _ v H3 q ((hp.pop hm).new n)
  · rw [hks]
    exact run_fnN (us := [.ref a]) (vs := [.ref a]) M.ok (hr.mono hj) b1 pass0 I2 (.cons rfl .nil) rz rfl l3 q2
/-- sep.join(list of texts) -/
theorem eJoin (h : EV X o ss ts fun s0 r0 => s1K (fun x => EV X e s0 (r0 :: ts) fun s r => d1K (fun d => ∃ ys : List Str, d = .lst (ys.map D.str) ∧ (ys.map (·.length)).sum + ys.length * x.length ≤ 16777216 ∧ Φ s (.own (.str (Txt.join x ys)))) r) r0)
    (hs : starEach [e] X.env = [(false, eval e X.env)] := by rfl) (hbase : attributeBase o "join" X.env (eval o X.env) = eval o X.env := by rfl) (hline : (apos.endLine == pos.line) = true := by rfl) :
    EV X (.Call (.Attribute o "join" apos) [e] [] pos) ss ts Φ := fun mm B σ tv H Q hm hh kk => by
  refine toE (pe_join pe_w pe_w hs hbase hline) ?_
  refine h mm B σ tv H _ hm hh fun s0 r0 v H1 hq h1 => ?_
  obtain ⟨x, er, hq⟩ := s1K_of hq
  have z := h1.top (d := .str x) (by rw [er]; exact Slot.is_own)
  rw [rep_str] at z
  refine ⟨⟨x, z⟩, ?_⟩
  refine hq mm B σ (v :: tv) H1 _ hm.up h1 fun s r y H2 hq2 h2 => ?_
  obtain ⟨d, ir, ys, rfl, hz, q⟩ := d1K_of hq2
  have z2 := h2.top ir
  unfold RepR at z2
  obtain ⟨p, vs, rfl, ep, rp⟩ := z2
  rw [reps_strs rp] at ep
  exact ⟨x, p, ys, z, rfl, .inl (SqL.of ep), hz, kk s _ _ H2 q (((h2.pop hm.up).pop hm).pushF o_str)⟩
/-- o.clear() of a new list -/
theorem eClearT (h : EV X o ss ts fun s r => ∃ l, r = .own (.lst l) ∧ Φ s (.own .non)) (hbase : attributeBase o "clear" X.env (eval o X.env) = eval o X.env := by rfl) (hline : (apos.endLine == pos.line) = true := by rfl) :
    EV X (.Call (.Attribute o "clear" apos) [] [] pos) ss ts Φ := fun mm B σ tv H Q hm hh kk => by
  refine toE (pe_bm0 PySem.F.plainAttrs_list PySem.F.slot_list_clear PySem.F.type_list_clear mt_clear pe_w hbase hline) ?_
  refine h mm B σ tv H _ hm hh fun s r v H1 ⟨l, er, q⟩ ⟨fp, h1⟩ => ?_
  subst er
  obtain ⟨fp', F, h2, _, r2, nd, o2, b2, _⟩ := h1.take hm
  unfold RepO at r2
  obtain ⟨a, vs, G, rfl, ea, rfl, _⟩ := r2
  refine ⟨.inl ⟨rfl, vs, SqL.of ea⟩, a, vs, rfl, rfl, ea, kk s _ _ _ q (Held.pushF ⟨fp', h2.heap (TK.upd ea fun z => z) (fun b u hb => ?_) fun o b hb => ?_⟩ o_non)⟩
  · rw [upd_ne (fun z => by rw [z, b2 a List.mem_cons_self] at hb; cases hb)]
    exact h2.base b u hb
  · exact upd_ne fun z => o2 a List.mem_cons_self o (by rw [← z]; exact hb)
/-- [x, e][b], x an own list in slot i -/
theorem eSel (i : Nat) {x : Str} {px : Pos} {lp : Pos} {d00 : D} (h : EV X e2 ss ts fun s1 r1 => ∃ d2, r1 = .own d2 ∧ ∀ v v', EV X b s1 (.own (.lst [.raw v, .raw v']) :: r1 :: ts) fun s r => ∃ (d : D) (j : Int), s[i]? = some (.own d) ∧ noView (.v i) ts = true ∧ r = .own (.int j) ∧ (j = 0 ∨ j = 1) ∧ (j = 0 → Φ ((s.map (kill (.v i))).set i .no) (.own d)) ∧ (j = 1 → Φ s (.own d2)))
    (h0 : ss[i]? = some (.own d00) := by rfl) (hN : X.N[i]? = some x := by rfl) (hv : Vis X.env.scope x := by first | exact Or.inl rfl | exact Or.inr (Or.inl rfl) | exact Or.inr (Or.inr rfl)) (hd : (x == ("__debug__" : Str)) = false := by decide) (hcd : (x == ("__classdict__" : Str)) = false := by decide)
    (he : starEach [.Name x px, e2] X.env = (false, eval (.Name x px) X.env) :: starEach [e2] X.env := by rfl) (he2 : starEach [e2] X.env = (false, eval e2 X.env) :: starEach [] X.env := by rfl) (hs : PlainIx b := by intro _ _; rfl) :
    EV X (.Subscript (.List [.Name x px, e2] lp) b pos) ss ts Φ := fun mm B σ tv H Q hm hh kk => by
  refine toE (pe_ix ix_seq (pe_lst (pa_cons (pe_var hN hv hd hcd) (pa_cons pe_w pa_nil he2) he)) pe_w hs) ?_
  obtain ⟨v0, x1, _⟩ := held_get hh h0 (d := d00) (.inl rfl)
  refine ⟨v0, x1, ?_⟩
  refine h mm B σ tv H _ hm hh fun s1 r1 v1 H1 ⟨d2, er, hq⟩ ⟨fp1, h1⟩ => ?_
  subst er
  refine ⟨(show 2 ≤ sizeLine by decide), fun p hp => ?_⟩
  have h2 : Held X.K mm B (upd H1 p (.lst [v0, v1])) σ s1 (.ref p :: v1 :: tv) (.own (.lst [.raw v0, .raw v1]) :: .own d2 :: ts) := Held.fresh ⟨fp1, h1⟩ (F := [p]) (Ex.new hp) (by
    unfold RepO
    refine ⟨p, _, [], rfl, upd_same, rfl, ?_⟩
    unfold RepOs
    refine ⟨v0, [v1], [], [], rfl, rfl, by unfold RepO; exact ⟨rfl, rfl⟩, ?_⟩
    unfold RepOs
    refine ⟨v1, [], [], [], rfl, rfl, by unfold RepO; exact ⟨rfl, rfl⟩, ?_⟩
    unfold RepOs
    exact ⟨rfl, rfl⟩) (by simp) fun a ha => by
      rw [List.mem_singleton.mp ha]
      exact hp
  refine hq v0 v1 mm B σ (.ref p :: v1 :: tv) _ _ hm.up.up h2 fun s r y H2 ⟨d, j, hi, hv1, er, hj, q0, q1⟩ h3 => ?_
  subst er
  have iy := h3.top (d := .int j) Slot.is_own
  rw [rep_int] at iy
  have h4 := h3.pop hm.up.up
  have z := h4.top (d := .lst [.raw v0, .raw v1]) Slot.is_own
  unfold RepR at z
  obtain ⟨p', vs, ep, ea, rr⟩ := z
  cases ep
  unfold RepRs at rr
  obtain ⟨w1, ws, rfl, g1, rr⟩ := rr
  unfold RepRs at rr
  obtain ⟨w2, ws, rfl, g2, rr⟩ := rr
  unfold RepRs at rr
  subst rr
  rw [rep_raw] at g1 g2
  subst g1 g2
  have h5 := h4.pop hm.up
  rcases hj with rfl | rfl
  · obtain ⟨v, e3, h6⟩ := (h5.pop hm).move hi hv1
    rw [x1] at e3
    cases e3
    exact .inl ⟨p, _, 0, w1, rfl, iy, SqL.of ea, rfl, kk _ _ w1 H2 (q0 rfl) h6⟩
  · exact .inl ⟨p, _, 1, w2, rfl, iy, SqL.of ea, rfl, kk _ _ w2 H2 (q1 rfl) h5⟩
end
end DL
/-! The data layer: refusals as values, made without arguments and by keywords. The parts named after kit proofs are turned from those. -/
namespace PySem
namespace HandSPX
open Builtin Builtin.ObjectAttr
section
variable {M : Model} {A : Around} {E : Value → Shared → Prop} {h : Heap} {g : Array GenState} {d : Drawn} {t : Nat} {os : OsState}
variable {nm q : Str} {C N : Addr} {bs bm bmB : List Value} {hdct : Bool} {sn : List Str} {sub : List Value} {ab : Bool} {col : Option Bool} {dd : Option Addr} {k0 k1 k2 k3 k5 : Option Value} {B newId initId : String}
theorem check_new_ownQ (F : ExcBaseFacts B newId initId bmB) (hT : ∀ X : String, bm.contains (.type X) = bmB.contains (.type X)) {rest : List Value} {kws : List (Str × Value)} {Q : Unit → Shared → Prop}
    (hC : h.get? C = some (excClassObj nm q C N bs bm hdct sn sub ab col dd k0 k1 k2 k3 k5 newId)) (hq : Q () ⟨h, g, d, t, os⟩) : wpAny M A (checkBuiltinCall newId ⟨.ref C :: rest, kws⟩) Q E ⟨h, g, d, t, os⟩ := by
  have hcont : (Value.ref C :: bm).contains (.type B) = true := by rw [List.contains_cons, hT, F.hasB, Bool.or_true]
  have hstar := F.noStar
  simp only [checkBuiltinCall, F.newKind, F.newSplit, F.newRow]
  repeat (first | refine wpAny_loadPart_at hC ?_ | (refine wpAny_isSubtype_exc hC ?_; rw [hcont]) | refine wpAny_staticBase_exc hC ?_ | refine wpAny_madeBy_exc hC ?_ | simp only [bne_self_eq_false, Bool.false_eq_true, if_false] | wp_step)
  exact hq
end
section
variable {prog : Program} {w : World} {A : Around} {E : Value → Shared → Prop} {R : Result → Shared → Prop} {h : Heap} {g : Array GenState} {d : Drawn} {t : Nat} {os : OsState}
variable {nm q : Str} {C N : Addr} {bs bm bmB : List Value} {hdct : Bool} {sn : List Str} {sub : List Value} {ab : Bool} {col : Option Bool} {dd : Option Addr} {k0 k1 k2 k3 k5 : Option Value} {B newId initId : String}
theorem new_ownQ (F : ExcBaseFacts B newId initId bmB) (hT : ∀ X : String, bm.contains (.type X) = bmB.contains (.type X)) {rest : List Value} {kws : List (Str × Value)}
    (hC : h.get? C = some (excClassObj nm q C N bs bm hdct sn sub ab col dd k0 k1 k2 k3 k5 newId))
    (hq : R (.ok (.ret (.ref (h.objs.size + 1)))) ⟨(h.push { cls := .type "tuple", data := .seq rest.toArray }).push
      { cls := .ref C, data := .fields #[.ref h.objs.size, .none, .none, .none, .bool false, .none] }, g, d, t, os⟩) (hrest : rest.length ≤ sizeLine) :
    codeAny (model prog w) A (.builtin newId ⟨.ref C :: rest, kws⟩) R ⟨h, g, d, t, os⟩ := by
  have hends := F.ends
  have hcB : (Value.ref C :: bm).contains (.type B) = true := by rw [List.contains_cons, hT, F.hasB, Bool.or_true]
  have hcA : (Value.ref C :: bm).contains (.type "AttributeError") = false := by rw [List.contains_cons, hT, F.noAttr]; rfl
  have hcN : (Value.ref C :: bm).contains (.type "NameError") = false := by rw [List.contains_cons, hT, F.noName]; rfl
  refine codeAny_builtinAt F.entry ?_
  unfold Builtin.«BaseException.__new__»
  refine wpAt_bind ?_
  show wpAt _ _ _ (stack >>= _) _ _ _
  refine wpAt_bind (wpAt_stack fun p below => wpAt_of_wpAny ?_)
  wp_walk
  refine wpAt_of_wpAny ?_
  rw [F.owner]
  repeat (first | with_reducible refine wpAny_madeHere_exc F.canon hC ?_ | with_reducible refine wpAny_loadPart_at hC ?_ | (with_reducible refine wpAny_isSubtype_exc hC ?_; first | rw [hcB] | rw [hcA] | rw [hcN]) | wp_step)
  show R _ _
  rw [Heap.size_push]
  exact hq
theorem type_call_ownQ (F : ExcBaseFacts B newId initId bmB) (hT : ∀ X : String, bm.contains (.type X) = bmB.contains (.type X)) {rest : List Value} {kws : List (Str × Value)} {fI : Addr} {Q : Fin → Shared → Prop}
    (hC : h.get? C = some (excClassObj nm q C N bs bm hdct sn sub ab col dd k0 k1 k2 k3 k5 newId))
    (hi : W.Looks (model prog w) h (typeLookup (.ref C) "__init__") (some (.ref fI))) (hb : ∀ self, W.Looks (model prog w) h (bindSpecial (.ref fI) self) (.ref fI, [self])) (hrest : rest.length ≤ sizeLine)
    (hq : codeAny (model prog w) A (.call (.ref fI) ⟨.ref (h.objs.size + 1) :: rest, kws⟩)
      (fun r s' => match r with | .ok (.ret v) => v = .none ∧ Q (.done (.ret (.ref (h.objs.size + 1)))) s' | .ok _ => False | .error e => E e s')
      ⟨(h.push (W.kdv_tup rest)).push (excO C h.objs.size), g, d, t, os⟩) :
    wpAny (model prog w) A (Builtin.«type.__call__» ⟨.ref C :: rest, kws⟩) Q E ⟨h, g, d, t, os⟩ := by
  repeat (first | with_reducible refine wpAny_loadPart_at hC ?_ | with_reducible refine wpAny_madeBy_exc hC ?_ | wp_step)
  refine codeAny_call_builtin_code (Code.quiet_builtin _ F.quiet) (check_new_ownQ F hT hC ?_)
  refine new_ownQ F hT hC ?_ hrest
  show wpAny _ _ _ _ _ _
  have k : ∀ b o, h.get? b = some o → ((h.push (W.kdv_tup rest)).push (excO C h.objs.size)).get? b = some o := fun b o e => Heap.get?_push_of_some _ (Heap.get?_push_of_some _ e)
  have hC₁ := k _ _ hC
  have hget : ((h.push (W.kdv_tup rest)).push (excO C h.objs.size)).get? (h.objs.size + 1) = some (excO C h.objs.size) := by heap_get
  have hcC : (Value.ref C :: bm).contains (.ref C) = true := by simp
  have i1 := hi.keeps k
  have b1 := (hb (.ref (h.objs.size + 1))).keeps k
  unfold isInstance
  repeat (first | with_reducible refine wpAny_loadPart_at hget ?_ | (with_reducible refine wpAny_isSubtype_exc hC₁ ?_; rw [hcC]) | wp_step)
  show wpAny _ _ (typeLookup (.ref C) _) _ _ _
  refine i1.at ?_
  refine wpAny_holding (wpAny_bind (b1.at ?_))
  refine wpAny_bind (wpAny_call (codeAny_mono hq fun r s' z => ?_))
  rcases r with e | (v | _ | _ | _) <;> first | exact z | exact z.elim | skip
  obtain ⟨rfl, z⟩ := z
  first
    | exact wpAny_pure (wpAny_pure z)
    | (wp_walk; exact z)
theorem call_ownQ (F : ExcBaseFacts B newId initId bmB) (hT : ∀ X : String, bm.contains (.type X) = bmB.contains (.type X)) {rest : List Value} {kws : List (Str × Value)} {fI : Addr}
    (hC : h.get? C = some (excClassObj nm q C N bs bm hdct sn sub ab col dd k0 k1 k2 k3 k5 newId))
    (hi : W.Looks (model prog w) h (typeLookup (.ref C) "__init__") (some (.ref fI))) (hb : ∀ self, W.Looks (model prog w) h (bindSpecial (.ref fI) self) (.ref fI, [self])) (hrest : rest.length ≤ sizeLine)
    (hq : codeAny (model prog w) (A.under (.builtin "type.__call__" ⟨.ref C :: rest, kws⟩)) (.call (.ref fI) ⟨.ref (h.objs.size + 1) :: rest, kws⟩) (W.InitBack (h.objs.size + 1) R)
      ⟨(h.push (W.kdv_tup rest)).push (excO C h.objs.size), g, d, t, os⟩) :
    codeAny (model prog w) A (.call (.ref C) ⟨rest, kws⟩) R ⟨h, g, d, t, os⟩ := by
  have f1 := tc_lookup
  have f2 := tc_bind (.ref C)
  have hTy : (⟨h, g, d, t, os⟩ : Shared).TypeIs (.ref C) "type" := ⟨_, hC, rfl⟩
  refine codeAny_of_tree ?_
  show wpAny _ _ (callAny (.ref C) _) _ _ _
  repeat (any_goals (first | assumption | with_reducible refine wpAny_loadPart_at hC ?_ | wp_step))
  refine ⟨rfl, ?_⟩
  refine codeAny_call_builtin_at (Code.quiet_builtin _ (by decide +kernel)) entry_typeCall (wpAny_check_type_call_sub hC (type_call_ownQ F hT hC hi hb hrest ?_))
  refine codeAny_mono hq fun r s' z => ?_
  rcases r with e | (v | _ | _ | _) <;> exact z
end
end HandSPX
end PySem
/-! The data layer: refusals as values. -/
namespace DL
open PySem PySem.Spec PyProof.Rows L2
section
variable {X : Cx} {ss ts : List Slot} {Φ : List Slot → Slot → Prop} {e e2 : Expr} {es : List Expr} {p pos : Pos} {x f g : Str} {C : Addr} {ps : List Str}
/-- what is made stands as a value -/
theorem ep_mk {pins : List (Addr × Obj)} {σ : L2.St} {Q : VK} {u : Value} {s' : Shared} (h : MkP X pins σ (fun cls d H' => ∃ C, cls = .ref C ∧ ∀ a, H' a = none → Q (.ref a) (upd H' a (ExA C d a))) u s') : EP X pins σ Q u s' := by
  obtain ⟨a, oe, vs, sI, H', cls, d, rfl, J, k, hne, ha, hz, hd, h1, na, os, ag, r, C, rfl, q⟩ := h
  have J2 := J.laidN (t' := s'.toks) (o := ExA C d a) k hne na ⟨⟨oe, vs, ha, hz, hd⟩, ⟨oe, ha⟩, fun h1 h2 ⟨o, v, q1, q2, q3⟩ k => ⟨o, v, k _ q1, q2, q3⟩⟩
  exact ⟨.ref a, _, ⟨J2.ok, os.trans J2.os, ag, J2.base, J2.loc, J2.cell, J2.free, J2.freeC, fun p hp => J2.pin p hp, J2.hok, J2.len⟩, rfl, q a na⟩
theorem eMade (h : MV X e ss ts fun s y => Φ s (.own y.d)) : EV X e ss ts Φ := fun m B σ tv H Q hm hh k => by
  intro pins s I
  refine wpAny_mono (h m B σ tv H (fun cls d H' => ∃ C, cls = .ref C ∧ ∀ a, H' a = none → Q (.ref a) (upd H' a (ExA C d a))) hm hh (fun s1 y cls d H' q ⟨ec, fl, fs, xd, en, rr⟩ held => ⟨y.C, ec, fun a na => ?_⟩) pins s I) (fun u s1 hu => ep_mk hu) fun _ _ z => z
  have ex : Ex H' (upd H' a (ExA y.C d a)) := Ex.new na
  have ro : RepO X.K (upd H' a (ExA y.C d a)) y.d (.ref a) [] := by
    have fl2 : (XD.d y).flat = true := by unfold XD.d DL.D.flat; exact fl
    refine RepR.flatO ?_ fl2
    unfold XD.d RepR
    exact ⟨a, d, fs, rfl, upd_same, ex.tk.xd xd, en, rr.mono ex⟩
  exact k s1 _ _ _ q ((Held.ex held ex).pushF ro)
/-- C() of a class without own __init__ -/
theorem mk_none {Ψ : List Slot → XD → Prop} (T : ExK X.K X.mg x C) (q : Ψ ss ⟨C, [], []⟩) (hg : Gl X x := by rfl) (hdb : (x == ("__debug__" : Str)) = false := by decide)
    (hpl : ((backTo pos (starEach [] X.env)).any (·.1) || (backToKw pos (keywordEach [] X.env)).any (·.1.isNone)) = false := by rfl) : MV X (.Call (.Name x p) [] [] pos) ss ts Ψ := fun m B σ tv H Q hm hh k => by
  have hq : Q (.ref C) none H := k ss _ _ none H q excAt_plain hh
  intro pins s I
  have F := PySem.F.excBase_ValueError
  refine wpAny_Call_Name_kw (ld_glob I hg T.gC ?_ hdb)
  refine PySem.W.callWith_KW0 (first := []) (h₀ := X.base) I.ok.mod.kin T.kC (by rfl) ?_ hpl
  show wpAny _ _ (evalAll []) _ _ _
  refine wpAny_pure ⟨I.kIn, ?_⟩
  show wpAny _ _ (call (.ref C) []) _ _ _
  obtain ⟨bm, N, nm, qn, bs, hdct, sn, sub, ab, col, dd, k0, k1, k2, k3, k5, mN, hC, hN, hni, T2⟩ := exc_obj I.kIn T.ex
  refine wpAny_call_exc_subT F T2 hC hN hni (fun h' e hm => ?_) (by show 0 ≤ sizeLine; rw [sizeLine_eq]; omega)
  exact mk_of I hm (raises_own T.bC T.tC) hq (I.hok.gone hm.new)
/-- C(k = v, ..), C's own __init__ keeping sp -/
theorem pmk_oexK {CX : CXT} {fI : Addr} {k : Nat} {fd : FuncData} {ks : List Str} {sp : L2.Sp} {kws : List Keyword} {gU : List Value → List Value → List Value} {gV : List V → List V → List V} {tk : TA} (T : OexC X.K C) (iC : PySem.W.findIn X.K (.ref C) "__init__" = some (some (.ref fI))) (tI : PySem.W.typeIn X.K (.ref fI) = some (.type "function"))
    (F1 : FnOk X.prog X.w X.K X.mg X.base CX k fI fd ps sp) (hr : Room (k + 1) X.A) (hb : KBn X.K fd ps 1 ks gU gV) (hx : Passes CX X (fun _ _ _ => False)) (hg : Gl X x) (hm : X.mg x = some (.ref C)) (ha : PK X kws tk)
    (hks : (backToKw pos (keywordEach kws X.env)).filterMap (·.1) = ks) (hall : (backToKw pos (keywordEach kws X.env)).all (·.1.isSome) = true) (hdb : (x == ("__debug__" : Str)) = false)
    (hpl : ((backTo pos (starEach [] X.env)).any (·.1) || (backToKw pos (keywordEach kws X.env)).any (·.1.isNone)) = false) :
    PMk X (.Call (.Name x p) [] kws pos) (fun σ H Q => tk σ H fun zs H1 => zs.length = ks.length ∧ ∀ a, H1 a = none → sp (gV [.ref a] zs) (upd H1 a (exo a C none))
      (fun v H2 => v = .non ∧ ∃ (d : Addr) (fs : List (Str × V)), H2 a = some (exo a C (some d)) ∧ H2 d = some (exd d fs) ∧ H1 d = none ∧ Q (.ref C) (some d) (upd (del H2 a) d (.xd fs))) (fun _ _ _ => False)) := by
  intro pins s σ H Q I h
  obtain ⟨nm, q, N, bs, bm, sn, sub, ab, col, dd, k0, k1, k2, k3, k5, hC, hbm⟩ := T.cls
  refine wpAny_Call_Name_kw (ld_glob I hg hm ?_ hdb)
  refine PySem.W.callWith_KW0 (first := []) (h₀ := X.base) I.ok.mod.kin T.kC hall (thn (ha.run pos pins s σ H _ I h) fun ws s1 ⟨zs, H1, I1, rz, hz, q1⟩ => ⟨I1.kIn, ?_⟩) hpl
  rw [hks]
  show wpAny _ _ (call (.ref C) [] (ks.zip ws)) _ _ _
  obtain ⟨hp, g, dr, tk, os⟩ := s1
  have hsz : hp.objs.size ≤ hp.objs.size + 1 := Nat.le_succ _
  have hn : H1 (hp.objs.size + 1) = none := I1.hok.fresh hsz
  have hq := q1 (hp.objs.size + 1) hn
  have kk : ∀ b o, hp.get? b = some o → ((hp.push (PySem.W.kdv_tup [])).push (PySem.HandSPX.excO C hp.objs.size)).get? b = some o := fun b o e => Heap.get?_push_of_some _ (Heap.get?_push_of_some _ e)
  have hget : ((hp.push (PySem.W.kdv_tup [])).push (PySem.HandSPX.excO C hp.objs.size)).get? (hp.objs.size + 1) = some (PySem.HandSPX.excO C hp.objs.size) := by heap_get
  have I2 : Inv X pins σ (upd H1 (hp.objs.size + 1) (exo (hp.objs.size + 1) C none)) ⟨(hp.push (PySem.W.kdv_tup [])).push (PySem.HandSPX.excO C hp.objs.size), g, dr, tk, os⟩ :=
    I1.laid (t' := tk) (a := hp.objs.size + 1) (o := exo (hp.objs.size + 1) C none) (h' := (hp.push (PySem.W.kdv_tup [])).push (PySem.HandSPX.excO C hp.objs.size)) kk hsz (exo_ok hget)
  have r1 : Vals [V.ref (hp.objs.size + 1)] [Value.ref (hp.objs.size + 1)] := .cons rfl .nil
  have r2 := hb.rel r1 rz
  refine wpAny_call (PySem.HandSPX.call_ownQ F.excBase_ValueError (fun Y => PySem.HandSPX.refsVE_contains Y bm hbm) (I1.kIn _ _ hC) (PySem.W.looks_findIn I1.kIn iC) (fun self => PySem.W.bind_fn I1.kIn self tI) (Nat.zero_le _)
    (codeAny_mono (F1.run _ X.stack _ _ ⟨[Value.ref (hp.objs.size + 1)], ks.zip ws⟩ (gU [Value.ref (hp.objs.size + 1)] ws) _ _ (fun _ _ _ => False) (hr.make C [] (ks.zip ws)) (I2.env0.make C [] (ks.zip ws)) (hb.to _ [Value.ref (hp.objs.size + 1)] ws I2.kIn rfl (rz.length.symm.trans hz)) r2 hq) fun r s' hq' => ?_))
  cases r with
  | error er => exact hx pins σ _ _ er s' I2 hq'
  | ok fl =>
    cases fl with
    | ret u =>
      obtain ⟨v, H2, os2, bare2, un2, hok2, rv, ev, d, fs, ea, ed, hd1, q2⟩ := hq'
      subst ev
      obtain ⟨h2, g2, d2, t2, os'⟩ := s'
      exact ⟨rv, mk_end (raises_own T.exC T.tyC) I1 hsz kk un2 hok2 os2 bare2 ea ed hd1 q2⟩
    | next => exact False.elim hq'
    | brk => exact False.elim hq'
    | cont => exact False.elim hq'
/-- such a class, as a call with keywords alone sees it -/
structure ExIK (P : Program) (w : World) (K : PySem.W.Frag) (mg : Str → Option Value) (base : Heap) (x : Str) (C : Addr) (ps : List Str) (sp : L2.Sp) (ks : List Str) (is : List Nat) : Prop where
  ox : OexC K C
  nm : mg x = some (.ref C)
  ini : ∃ (fI : Addr) (fd : FuncData), PySem.W.findIn K (.ref C) "__init__" = some (some (.ref fI)) ∧ PySem.W.typeIn K (.ref fI) = some (.type "function") ∧ FnOk P w K mg base CX0 1 fI fd ps sp ∧ ∃ (its : List Value) (dvs : List V), KBn K fd ps 1 ks (fun us ws => pick is (us ++ its ++ ws)) (fun vs zs => pick is (vs ++ dvs ++ zs)) ∧ ∀ H, RepRs K H [] dvs
theorem mk_oneK {kws : List Keyword} {Ψ : List Slot → XD → Prop} (T : ExIK X.prog X.w X.K X.mg X.base x C ps (spF1 X.K f) [g] [0, 1]) (hr : Room 2 X.A) (hno : PySem.W.findIn X.K (.ref C) f = some none)
    (h : KV X kws ss ts fun s rs => allK rs fun ds => ∃ d, ds = [d] ∧ d.flat = true ∧ Ψ s ⟨C, [f], [d]⟩) (hg : Gl X x := by rfl) (hdb : (x == ("__debug__" : Str)) = false := by decide)
    (hks : (backToKw pos (keywordEach kws X.env)).filterMap (·.1) = [g] := by rfl) (hall : (backToKw pos (keywordEach kws X.env)).all (·.1.isSome) = true := by rfl)
    (hpl : ((backTo pos (starEach [] X.env)).any (·.1) || (backToKw pos (keywordEach kws X.env)).any (·.1.isNone)) = false := by rfl) : MV X (.Call (.Name x p) [] kws pos) ss ts Ψ := fun m B σ tv H Q hm hh k => by
  obtain ⟨fI, fd, i1, i2, i3, its, dvs, kb, hdv⟩ := T.ini
  have e0 : dvs = [] := by
    have z := hdv H
    unfold RepRs at z
    exact z
  subst e0
  refine toMk (pmk_oexK T.ox i1 i2 i3 hr kb pass0 hg T.nm pk_w hks hall hdb hpl) ?_
  refine h m B σ tv H _ hm hh fun s1 rs zs H1 h1 l1 l2 hh1 => ?_
  obtain ⟨ds, id, d, rfl, fl, q⟩ := allK_of h1
  have rv := hh1.argsOf l1 id hm
  have hp := hh1.popA l1 hm
  obtain ⟨v, rfl, rd⟩ := reps1 rv
  refine ⟨rfl, fun a na => ⟨a, C, v, rfl, T.ox, hno, upd_same, fun dx nd ne => ⟨rfl, dx, [(f, v)], upd_same, ?_, ?_, ?_⟩⟩⟩
  · rw [upd_ne ne, upd_same]
  · rw [upd_ne ne] at nd
    exact nd
  · rw [upd_ne ne] at nd
    rw [mk_heap na nd ne]
    have ex : Ex H1 (upd H1 dx (.xd [(f, v)])) := Ex.new nd
    exact k s1 ⟨C, [f], [d]⟩ _ _ _ q ⟨rfl, by rw [D.flats_cons, fl]; unfold D.flats; rfl, [(f, v)], .inr ⟨dx, rfl, upd_same⟩, rfl, reps_cons (rd.mono ex) reps_nil⟩ (Held.ex hp ex)
/-- the values of the second and first parameter, by name in the other order -/
theorem mk_twoK {g1 g2 : Str} {kws : List Keyword} {Ψ : List Slot → XD → Prop} (T : ExIK X.prog X.w X.K X.mg X.base x C ps (spF2 X.K f g) [g1, g2] [0, 2, 1]) (hr : Room 2 X.A) (hno : PySem.W.findIn X.K (.ref C) f = some none) (hno2 : PySem.W.findIn X.K (.ref C) g = some none)
    (h : KV X kws ss ts fun s rs => allK rs fun ds => ∃ d1 d2, ds = [d1, d2] ∧ (d1.flat = true ∧ d2.flat = true) ∧ Ψ s ⟨C, [g, f], [d1, d2]⟩) (hg : Gl X x := by rfl) (hdb : (x == ("__debug__" : Str)) = false := by decide)
    (hks : (backToKw pos (keywordEach kws X.env)).filterMap (·.1) = [g1, g2] := by rfl) (hall : (backToKw pos (keywordEach kws X.env)).all (·.1.isSome) = true := by rfl)
    (hpl : ((backTo pos (starEach [] X.env)).any (·.1) || (backToKw pos (keywordEach kws X.env)).any (·.1.isNone)) = false := by rfl) : MV X (.Call (.Name x p) [] kws pos) ss ts Ψ := fun m B σ tv H Q hm hh k => by
  obtain ⟨fI, fd, i1, i2, i3, its, dvs, kb, hdv⟩ := T.ini
  have e0 : dvs = [] := by
    have z := hdv H
    unfold RepRs at z
    exact z
  subst e0
  refine toMk (pmk_oexK T.ox i1 i2 i3 hr kb pass0 hg T.nm pk_w hks hall hdb hpl) ?_
  refine h m B σ tv H _ hm hh fun s1 rs zs H2 h1 l1 l2 hh1 => ?_
  obtain ⟨ds, id, d1, d2, rfl, ⟨fl1, fl2⟩, q⟩ := allK_of h1
  have rv := hh1.argsOf l1 id hm
  have hp := hh1.popA l1 hm
  obtain ⟨u, v, rfl, rd1, rd2⟩ := reps2 rv
  refine ⟨rfl, fun a na => ⟨a, C, v, u, rfl, T.ox, hno, hno2, upd_same, fun dx nd ne => ⟨rfl, dx, [(g, u), (f, v)], ?_, upd_same, ?_, ?_⟩⟩⟩
  · rw [upd_ne (Ne.symm ne), upd_same]
  · rw [upd_ne ne] at nd
    exact nd
  · rw [upd_ne ne] at nd
    rw [mk_heap2 na nd ne]
    have ex : Ex H2 (upd H2 dx (.xd [(g, u), (f, v)])) := Ex.new nd
    exact k s1 ⟨C, [g, f], [d1, d2]⟩ _ _ _ q ⟨rfl, by rw [D.flats_cons, D.flats_cons, fl1, fl2]; unfold D.flats; rfl, [(g, u), (f, v)], .inr ⟨dx, rfl, upd_same⟩, rfl, reps_cons (rd1.mono ex) (reps_cons (rd2.mono ex) reps_nil)⟩ (Held.ex hp ex)
theorem pure_lst {l : List D} : (D.lst l).pure = D.pures l := by rw [D.pure]
theorem pures_cons {d : D} {l : List D} : D.pures (d :: l) = (d.pure && D.pures l) := by rw [D.pures]
theorem pures_nil : D.pures [] = true := by rw [D.pures]
theorem pure_str {x : Str} : (D.str x).pure = true := by rw [D.pure] <;> simp
theorem frz_lst {l : List D} : (D.lst l).frz = .fz (D.frzs l) := by rw [D.frz]
theorem frzs_cons {d : D} {l : List D} : D.frzs (d :: l) = d.frz :: D.frzs l := by rw [D.frzs]
theorem frzs_nil : D.frzs [] = [] := by rw [D.frzs]
theorem frz_str {x : Str} : (D.str x).frz = .str x := by rw [D.frz]
/-- [a text, e], not changed from now on -/
theorem eTag {w : Str} {j : Nat} {cp lp : Pos} (h : EV X e ss (.own (.str w) :: ts) fun s r => ∃ d e, r = .own d ∧ d.pure = true ∧ d.frz = e ∧ Φ s (.own (.fz [.str w, e])))
    (h1 : starEach [.Constant (.str w) j cp, e] X.env = (false, eval (.Constant (.str w) j cp) X.env) :: starEach [e] X.env := by rfl) (h2 : starEach [e] X.env = (false, eval e X.env) :: starEach [] X.env := by rfl) : EV X (.List [.Constant (.str w) j cp, e] lp) ss ts Φ :=
  eFz <| dLst <| av_cons (ev_str <| av_cons (h.imp fun s r ⟨d, e, er, pd, ee, q⟩ => by
    subst er ee
    refine av_nil ⟨rfl, _, rfl, ?_, ?_⟩
    · rw [pure_lst, pures_cons, pures_cons, pures_nil, pure_str, pd]
      rfl
    · rw [frz_lst, frzs_cons, frzs_cons, frzs_nil, frz_str]
      exact q) h2) h1
/-- [a text, e, e2], not changed from now on -/
theorem eTag3 {w : Str} {j : Nat} {cp lp : Pos} (h : EV X e ss (.own (.str w) :: ts) fun s1 r1 => EV X e2 s1 (r1 :: .own (.str w) :: ts) fun s r => ∃ d1 d2 e1 e2, r1 = .own d1 ∧ r = .own d2 ∧ (d1.pure = true ∧ d2.pure = true) ∧ (d1.frz = e1 ∧ d2.frz = e2) ∧ Φ s (.own (.fz [.str w, e1, e2])))
    (h1 : starEach [.Constant (.str w) j cp, e, e2] X.env = (false, eval (.Constant (.str w) j cp) X.env) :: starEach [e, e2] X.env := by rfl) (h2 : starEach [e, e2] X.env = (false, eval e X.env) :: starEach [e2] X.env := by rfl) (h3 : starEach [e2] X.env = (false, eval e2 X.env) :: starEach [] X.env := by rfl) : EV X (.List [.Constant (.str w) j cp, e, e2] lp) ss ts Φ :=
  eFz <| dLst <| av_cons (ev_str <| av_cons (h.imp fun s1 r1 h' => av_cons (h'.imp fun s r ⟨d1, d2, e1, e2, er1, er, ⟨pd1, pd2⟩, ⟨ee1, ee2⟩, q⟩ => by
    subst er1 er ee1 ee2
    refine av_nil ⟨rfl, _, rfl, ?_, ?_⟩
    · rw [pure_lst, pures_cons, pures_cons, pures_cons, pures_nil, pure_str, pd1, pd2]
      rfl
    · rw [frz_lst, frzs_cons, frzs_cons, frzs_cons, frzs_nil, frz_str]
      exact q) h3) h2) h1
/-- self.f and self.g are stored -/
theorem init2_body {B : Addr} {f g a b msg : Str} {j : Nat} {p1 p2 p3 p4 p5 p6 p7 p8 p9 p10 q7 q8 q9 q10 : Pos} (T : BIn X.K X.mg "SlackError" B) (hc : ∀ env : Env, eval (.Call (.Attribute (.Name ("SlackError" : Str) p1) ("__init__" : Str) p2) [.Name ("self" : Str) p3, .Constant (.str msg) j p4] [] p5) env = (do
      let ov ← eval (.Name ("SlackError" : Str) p1) env
      standAt p2.atName
      let (f, first) ← holding [ov] (getMethod ov ("__init__" : Str) (do return (← importBound (.Name ("SlackError" : Str) p1) env).getD true))
      callWith p5 f first (backTo p5 (starEach [.Name ("self" : Str) p3, .Constant (.str msg) j p4] env)) (backToKw p5 (keywordEach [] env)))) (h0 : X.N[0]? = some ("self" : Str)) (h1 : X.N[1]? = some a) (h2 : X.N[2]? = some b) (v0 : Vis X.env.scope "self") (v1 : Vis X.env.scope a) (v2 : Vis X.env.scope b) (hg : Gl X "SlackError") (hd : (a == ("__debug__" : Str)) = false) (hcd : (a == ("__classdict__" : Str)) = false) (hd2 : (b == ("__debug__" : Str)) = false) (hcd2 : (b == ("__classdict__" : Str)) = false) (hl : X.N.length = 3) :
    ∃ t, PSs X [.Expr (.Call (.Attribute (.Name "SlackError" p1) "__init__" p2) [.Name "self" p3, .Constant (.str msg) j p4] [] p5) p6, .Assign [.Attribute (.Name "self" p7) f p8] (.Name a p9) p10, .Assign [.Attribute (.Name "self" q7) g q8] (.Name b q9) q10] t ∧
      ∀ (vs : List V) (H : Hp) (Q : VK) (E : XK), spF2 X.K f g vs H Q E → t { nx := fun _ H' => Q .non H', rt := Q } (L2.start X.N vs) H := by
  refine ⟨_, pss_cons (ps_expr (pe_binit T (pa_cons (pe_var h0 v0) (pa_cons pe_str pa_nil)) hg (hc := hc X.env))) (pss_cons (ps_ost (pe_var h0 v0) (pe_var h1 v1 hd hcd)) (pss_one (ps_ost (pe_var h0 v0) (pe_var h2 v2 hd2 hcd2)))), ?_⟩
  rintro vs H Q E ⟨x, C, v, u, rfl, oc, hno, hno2, ha, q⟩
  have st : L2.start X.N [.ref x, v, u] = [some (.ref x), some v, some u] := by
    unfold L2.start
    rw [hl]
    rfl
  rw [st]
  refine ⟨.ref x, rfl, x, C, [.str msg], rfl, by show 1 ≤ 1000; decide, oc, ha, ?_⟩
  refine ⟨v, rfl, .ref x, rfl, x, C, rfl, oc, hno, .inl ⟨ha, fun dx nd ne => ?_⟩⟩
  refine ⟨u, rfl, .ref x, rfl, x, C, rfl, oc, hno2, .inr ⟨dx, [(f, v)], upd_same, by rw [upd_ne ne, upd_same], by show 1 ≤ 900; decide, ?_⟩⟩
  exact q dx nd ne
end
section
variable {P : Program} {w : World} {K : PySem.W.Frag} {mg : Str → Option Value} {base : Heap}
theorem init2_ok {qual : Str} {st : Stmt} {f : Addr} {fd : FuncData} {f1 f2 a b msg : Str} {B : Addr} {j : Nat} {p1 p2 p3 p4 p5 p6 p7 p8 p9 p10 q7 q8 q9 q10 : Pos} (Fn : FunD K "__init__" qual (defArgs st) (defBody st) (defScope st) [] [] f fd) (S : FnScope ["self", a, b] ["self", a, b] (defScope st)) (T : BIn K mg "SlackError" B)
    (hb : defBody st = [.Expr (.Call (.Attribute (.Name "SlackError" p1) "__init__" p2) [.Name "self" p3, .Constant (.str msg) j p4] [] p5) p6, .Assign [.Attribute (.Name "self" p7) f1 p8] (.Name a p9) p10, .Assign [.Attribute (.Name "self" q7) f2 q8] (.Name b q9) q10])
    (hc : ∀ env : Env, eval (.Call (.Attribute (.Name ("SlackError" : Str) p1) ("__init__" : Str) p2) [.Name ("self" : Str) p3, .Constant (.str msg) j p4] [] p5) env = (do
      let ov ← eval (.Name ("SlackError" : Str) p1) env
      standAt p2.atName
      let (f, first) ← holding [ov] (getMethod ov ("__init__" : Str) (do return (← importBound (.Name ("SlackError" : Str) p1) env).getD true))
      callWith p5 f first (backTo p5 (starEach [.Name ("self" : Str) p3, .Constant (.str msg) j p4] env)) (backToKw p5 (keywordEach [] env))) := by intro env; rfl)
    (v0 : Vis (defScope st) "self" := by exact .inl rfl) (v1 : Vis (defScope st) a := by exact .inl rfl) (v2 : Vis (defScope st) b := by exact .inl rfl) (hg : (defScope st).names.lookup ("SlackError" : Str) = some NameKind.globalImplicit := by rfl) (hd : (a == ("__debug__" : Str)) = false := by decide) (hcd : (a == ("__classdict__" : Str)) = false := by decide) (hd2 : (b == ("__debug__" : Str)) = false := by decide) (hcd2 : (b == ("__classdict__" : Str)) = false := by decide) :
    FnOk P w K mg base CX0 1 f fd ["self", a, b] (spF2 K f1 f2) := by
  refine Fn.ok S (fun vs H Q E ⟨_, _, _, _, e, _⟩ => by rw [e]; rfl) fun cdv A outer s H vs Q E hr hsp => ?_
  rw [hb]
  obtain ⟨t, h1, h2⟩ := init2_body (X := cxOf CX0 P w K mg base ["self", a, b] qual (defScope st) f cdv A outer s H E) (msg := msg) (f := f1) (g := f2) (j := j) (p1 := p1) (p2 := p2) (p3 := p3) (p4 := p4) (p5 := p5) (p6 := p6) (p7 := p7) (p8 := p8) (p9 := p9) (p10 := p10) (q7 := q7) (q8 := q8) (q9 := q9) (q10 := q10) T hc rfl rfl rfl v0 v1 v2 hg hd hcd hd2 hcd2 rfl
  exact ⟨t, h1, h2 vs H Q E hsp⟩
end
end DL
/-! The data layer: the class of all refusals itself. -/
namespace DL
open PySem PySem.Spec PyProof.Rows L2
def slB (K : PySem.W.Frag) : Bool := xcB K "SlackError" && (kiB K "SlackError" && plB K "SlackError")
def withSla (eb : PySem.W.Frag → Bool) (K : PySem.W.Frag) : Bool := eb K && slB K
/-- as XF, the class of all refusals among them -/
structure XFS (K : PySem.W.Frag) (mg : Str → Option Value) : Prop where
  glo : ∀ x, x ∈ LS → mg x = some (.ref (He.ga K x))
  exc : ∀ x, x ∈ LS → ExcC K (He.ga K x)
  kit : ∀ x, x ∈ LS → ∀ y, y ∈ LX → PySem.W.kitOne K (.ref (He.ga K x)) (.ref (He.ga K y)) = some (decide (x = y))
  kitS : ∀ x, x ∈ LS → PySem.W.kitOne K (.ref (He.ga K x)) (.ref (He.ga K "SlackError")) = some true
  kitV : ∀ x, x ∈ LS → PySem.W.kitOne K (.ref (He.ga K x)) (.type "ValueError") = some true
  fld : ∀ x, x ∈ LS → ∀ f, f ∈ LF → PySem.W.findIn K (.ref (He.ga K x)) f = some none
  plS : ExK K mg "SlackError" (He.ga K "SlackError")
theorem xfs_of {K : PySem.W.Frag} {mg : Str → Option Value} (F : XF K mg) (c : slB K = true) : XFS K mg := by
  obtain ⟨c1, c⟩ := He.ba c
  obtain ⟨c2, c3⟩ := He.ba c
  obtain ⟨d1, c2⟩ := He.ba c2
  obtain ⟨d2, c2⟩ := He.ba c2
  obtain ⟨d3, c2⟩ := He.ba c2
  obtain ⟨d4, d5⟩ := He.ba c2
  have z : (He.Fa.exc "SlackError").ok K = true := c3
  obtain ⟨z1, z⟩ := He.ba z
  obtain ⟨z2, z⟩ := He.ba z
  obtain ⟨z3, z4⟩ := He.ba z
  have sp : ∀ {p : Str → Prop}, p "SlackError" → (∀ x, x ∈ LX → p x) → ∀ x, x ∈ LS → p x := fun {p} h1 h2 x hx => by
    rcases List.mem_cons.mp hx with rfl | hx
    · exact h1
    · exact h2 x hx
  exact ⟨F.glo, sp (xcB_ok c1) F.exc, sp (fun y hy => of_decide_eq_true (List.all_eq_true.mp d1 y hy)) F.kit, sp (of_decide_eq_true d2) F.kitS, sp (of_decide_eq_true d3) F.kitV,
    sp (fun f hf => He.eqO_ok (List.all_eq_true.mp d5 f hf)) F.fld, ⟨z1, F.glo "SlackError" List.mem_cons_self, z2, of_decide_eq_true z3, of_decide_eq_true z4⟩⟩
theorem XFS.xfc {K : PySem.W.Frag} {mg : Str → Option Value} (F : XFS K mg) {x : Str} (hx : x ∈ LS) : XfC K (He.ga K x) := ⟨(F.exc x hx).hg, (F.exc x hx).hk, (F.exc x hx).hs, (F.exc x hx).hd⟩
end DL
/-! The data layer: literals of any depth in one step. -/
namespace DL
open PySem PySem.Spec PyProof.Rows L2
/-- the data of a list of literals -/
def litDs (f : Expr → Option D) : List Expr → Option (List D)
  | [] => some []
  | e :: es => match f e, litDs f es with
    | some d, some ds => some (d :: ds)
    | _, _ => none
/-- the datum of a literal -/
def litD : Nat → Expr → Option D
  | 0, _ => none
  | _ + 1, .Constant (.int i) _ _ => some (.int i)
  | _ + 1, .Constant (.str i) _ _ => some (.str i)
  | _ + 1, .Constant (.bool i) _ _ => some (.bl i)
  | _ + 1, .Constant .none _ _ => some .non
  | _ + 1, .UnaryOp .USub (.Constant (.int i) _ _) _ => some (.int (-i))
  | n + 1, .Tuple es _ _ => match litDs (litD n) es with
    | some ds => if Nat.ble ds.length 1000 then some (.tup ds) else none
    | none => none
  | n + 1, .List es _ => match litDs (litD n) es with
    | some ds => if Nat.ble ds.length 1000 then some (.lst ds) else none
    | none => none
  | _ + 1, _ => none
theorem ownK_own : ∀ {ds : List D} {k : List D → Prop}, k ds → ownK (ds.map Slot.own) k
  | [], _, h => h
  | d :: ds, k, h => ownK_own (ds := ds) (k := fun ds => k (d :: ds)) h
section
variable {X : Cx} {ss : List Slot}
theorem lit_plain {n : Nat} {e : Expr} {d : D} (h : litD n e = some d) {es : List Expr} {env : Env} : starEach (e :: es) env = (false, eval e env) :: starEach es env := by
  cases e <;> first | rfl | (cases n <;> cases h)
theorem av_lit {n : Nat} (ih : ∀ (e : Expr) (d : D), litD n e = some d → ∀ (ts : List Slot) (Φ : List Slot → Slot → Prop), Φ ss (.own d) → EV X e ss ts Φ) : ∀ (es : List Expr) (ds : List D), litDs (litD n) es = some ds → ∀ (ts : List Slot) (Ω : List Slot → List Slot → Prop), Ω ss (ds.map Slot.own) → AV X es ss ts Ω
  | [], ds, h, ts, Ω, q => by
    cases h
    exact av_nil q
  | e :: es, ds, h, ts, Ω, q => by
    unfold litDs at h
    split at h
    · rename_i d ds' e1 e2
      cases h
      exact av_cons (ih e d e1 ts _ (av_lit ih es ds' e2 _ _ q)) (lit_plain e1)
    · cases h
theorem eLit0 : ∀ (n : Nat) (e : Expr) (d : D), litD n e = some d → ∀ (ts : List Slot) (Φ : List Slot → Slot → Prop), Φ ss (.own d) → EV X e ss ts Φ
  | 0, e, d, h, ts, Φ, q => by cases h
  | n + 1, e, d, h, ts, Φ, q => by
    unfold litD at h
    split at h
    · rename_i z; cases z
    · cases h; exact ev_int q
    · cases h; exact ev_str q
    · cases h; exact ev_bl q
    · cases h; exact ev_non q
    · cases h; exact eNeg (ev_int q)
    · rename_i m es _ _ z
      cases z
      split at h
      · rename_i ds e1
        split at h
        · rename_i b
          cases h
          exact dTup (av_lit (eLit0 _) es ds e1 ts _ (ownK_own ⟨b, q⟩))
        · cases h
      · cases h
    · rename_i m es _ z
      cases z
      split at h
      · rename_i ds e1
        split at h
        · rename_i b
          cases h
          exact dLst (av_lit (eLit0 _) es ds e1 ts _ (ownK_own ⟨b, q⟩))
        · cases h
      · cases h
    · cases h
/-- a literal -/
theorem eLit {e : Expr} {ts : List Slot} {Φ : List Slot → Slot → Prop} (n : Nat) (d : D) (q : Φ ss (.own d)) (h : litD n e = some d := by kernel_rfl) : EV X e ss ts Φ := eLit0 n e d h ts Φ q
end
end DL
/-! The data layer, part T5: choices of places, parts of tables. -/
namespace DL
open PySem PySem.Spec PyProof.Rows L2
/-- the places with the sign c -/
def plcC (c : Nat) (t : Str) : List Nat := (List.range t.cps.toList.length).filter fun i => decide (t.cps.toList[i]? = some c)
@[reducible] def plc (t : Str) : List Nat := plcC 49 t
theorem plcC_lt {c : Nat} {t : Str} {i : Nat} (h : i ∈ plcC c t) : i < t.length := by
  rw [str_len]
  exact List.mem_range.mp (List.mem_filter.mp h).1
theorem plcC_len {c : Nat} {t : Str} : (plcC c t).length ≤ t.length := by
  have := List.length_filter_le (fun i => decide (t.cps.toList[i]? = some c)) (List.range t.cps.toList.length)
  rw [List.length_range, ← str_len] at this
  exact this
theorem plcC_next {c d : Nat} {t : Str} {i : Nat} (h : t.cps.toList[i]? = some d) : ((List.range (i + 1)).filter fun i => decide (t.cps.toList[i]? = some c)) = ((List.range i).filter fun i => decide (t.cps.toList[i]? = some c)) ++ (if d = c then [i] else []) := by
  rw [List.range_succ, List.filter_append, List.filter_cons]
  by_cases e : d = c
  · rw [if_pos (by rw [h, e]; exact decide_eq_true rfl), if_pos e]
    rfl
  · rw [if_neg (by rw [h]; simpa using e), if_neg e]
    rfl
/-- a sign as a text -/
theorem sgn_eq {c d : Nat} {x : Str} (h : x = ⟨#[d]⟩) : ((⟨#[c]⟩ : Str) = x) ↔ c = d := by
  subst h
  constructor
  · intro e
    have := congrArg Str.cps e
    simpa using this
  · intro e
    rw [e]
theorem sgn1 {c : Nat} : ((⟨#[c]⟩ : Str) = "1") ↔ c = 49 := sgn_eq (by decide +kernel)
theorem sgn0 {c : Nat} : ((⟨#[c]⟩ : Str) = "0") ↔ c = 48 := sgn_eq (by decide +kernel)
theorem svx_norm {X : Cx} {B : Hp} {fx : List Nat} {sts : List Stmt} {ss ss' ts : List Slot} {E : DE} {R : XD → List Slot → Prop} (e : ss = ss') (h : SVX X B fx sts ss' ts E R) : SVX X B fx sts ss ts E R := by
  rw [e]
  exact h
def entQ (R : List (List Rat)) (p q : Nat) : Rat := (R.getD p []).getD q 0
def subQ (R : List (List Rat)) (ps qs : List Nat) : List (List Rat) := ps.map fun p => qs.map fun q => entQ R p q
theorem ent_row {R : List (List Rat)} {p : Nat} {r : List Rat} (h : R[p]? = some r) (q : Nat) : entQ R p q = r.getD q 0 := by
  unfold entQ
  rw [List.getD_eq_getElem?_getD (l := R), h]
  rfl
theorem subQ_sq {R : List (List Rat)} {ps : List Nat} (h1 : ps ≠ []) (h5 : ps.length ≤ 5) : Sq (subQ R ps ps) := by
  refine ⟨?_, ?_, fun r hr => ?_⟩
  · unfold subQ
    rw [List.length_map]
    exact List.length_pos_iff.mpr h1
  · unfold subQ
    rw [List.length_map]
    exact h5
  · unfold subQ at hr ⊢
    obtain ⟨p, _, rfl⟩ := List.mem_map.mp hr
    rw [List.length_map, List.length_map]
theorem subQ_sz {R : List (List Rat)} {ps qs : List Nat} {b : Nat} (hR : ∀ r, r ∈ R → ∀ x, x ∈ r → Sz b x) (h0 : Sz b 0) : ∀ r, r ∈ subQ R ps qs → ∀ x, x ∈ r → Sz b x := fun r hr x hx => by
  unfold subQ at hr
  obtain ⟨p, _, rfl⟩ := List.mem_map.mp hr
  obtain ⟨q, _, rfl⟩ := List.mem_map.mp hx
  unfold entQ
  by_cases hp : p < R.length
  · rw [List.getD_eq_getElem?_getD (l := R), List.getElem?_eq_getElem hp]
    show Sz b (R[p].getD q 0)
    by_cases hq : q < R[p].length
    · rw [List.getD_eq_getElem?_getD, List.getElem?_eq_getElem hq]
      exact hR _ (List.getElem_mem hp) _ (List.getElem_mem hq)
    · rw [List.getD_eq_getElem?_getD, List.getElem?_eq_none (Nat.le_of_not_lt hq)]
      exact h0
  · rw [List.getD_eq_getElem?_getD (l := R), List.getElem?_eq_none (Nat.le_of_not_lt hp)]
    exact h0
@[reducible] def natD (l : List Nat) : D := .lst (l.map fun i : Nat => D.int (i : Int))
theorem flats_nat {l : List Nat} : D.flats (l.map fun i : Nat => D.int (i : Int)) = true := by
  induction l with
  | nil => unfold D.flats; rfl
  | cons x l ih => rw [List.map_cons, D.flats_cons, ih]; rfl
theorem join_nil (ys : List Str) : (Txt.join "" ys).cps.toList = ys.flatMap fun y => y.cps.toList := by
  rw [TL.join_eq]
  induction ys with
  | nil => rfl
  | cons x r ih =>
    cases r with
    | nil => simp [Str.join]
    | cons z r =>
      show (x ++ "" ++ Str.join "" (z :: r)).cps.toList = _
      have e : ("" : Str).cps.toList = [] := rfl
      rw [str_app_cps, str_app_cps, ih, e, List.append_nil]
      rw [List.flatMap_cons (x := x)]
/-- a text of so many signs 0 and 1 -/
theorem join_bits {ys : List Str} (h : ∀ y, y ∈ ys → y = "0" ∨ y = "1") : (Txt.join "" ys).length = ys.length ∧ isBin (Txt.join "" ys) = true := by
  have e0 : ("0" : Str).cps.toList = [48] := by decide +kernel
  have e1 : ("1" : Str).cps.toList = [49] := by decide +kernel
  rw [str_len, isBin_iff, join_nil]
  induction ys with
  | nil => exact ⟨rfl, fun c hc => nomatch hc⟩
  | cons y r ih =>
    obtain ⟨i1, i2⟩ := ih fun z hz => h z (List.mem_cons_of_mem _ hz)
    rw [List.flatMap_cons]
    rcases h y List.mem_cons_self with rfl | rfl
    · rw [e0]
      refine ⟨by rw [List.length_append, i1, List.length_cons]; exact Nat.add_comm _ _, fun c hc => ?_⟩
      rcases List.mem_append.mp hc with hc | hc
      · rw [List.mem_singleton.mp hc]; exact .inl rfl
      · exact i2 c hc
    · rw [e1]
      refine ⟨by rw [List.length_append, i1, List.length_cons]; exact Nat.add_comm _ _, fun c hc => ?_⟩
      rcases List.mem_append.mp hc with hc | hc
      · rw [List.mem_singleton.mp hc]; exact .inr rfl
      · exact i2 c hc
theorem sum_bits {ys : List Str} (h : ∀ y, y ∈ ys → y = "0" ∨ y = "1") : (ys.map (·.length)).sum = ys.length := by
  induction ys with
  | nil => rfl
  | cons y r ih =>
    rw [List.map_cons, List.sum_cons, ih fun z hz => h z (List.mem_cons_of_mem _ hz), List.length_cons]
    have : y.length = 1 := by rcases h y List.mem_cons_self with rfl | rfl <;> decide +kernel
    omega
theorem bit_text {r : Int} (h0 : 0 ≤ r) (h1 : r < 2) : ((toString r : String) : Str) = "0" ∨ ((toString r : String) : Str) = "1" := by
  have : r = 0 ∨ r = 1 := by omega
  rcases this with rfl | rfl
  · exact .inl (by decide +kernel)
  · exact .inr (by decide +kernel)
section
variable {X : Cx} {ss ts : List Slot} {Φ : List Slot → Slot → Prop} {e : Expr} {p pos : Pos}
/-- str of an int -/
theorem eStrI (hm : X.mg "str" = none) (h : EV X e ss ts fun s r => i1K (fun i => i.natAbs.log2 < 1920 ∧ Φ s (.own (.str (toString i)))) r) (hg : Gl X "str" := by rfl)
    (he : starEach [e] X.env = (false, eval e X.env) :: starEach [] X.env := by rfl) : EV X (.Call (.Name "str" p) [e] [] pos) ss ts Φ :=
  ev_strI hg hm (h.imp fun s r hq => by
    obtain ⟨i, e, q⟩ := i1K_of hq
    exact ⟨i, by rw [e]; exact Slot.is_own, q⟩) he
end
end DL
/-! The data layer, part E3: text * number. -/
namespace DL
open PySem PySem.Spec PyProof.Rows L2 Builtin Builtin.Str Builtin.Int
def repS (t : Str) (n : Nat) : Str := ⟨(List.replicate n t.cps).foldl (· ++ ·) #[]⟩
theorem rep_acc (c : Array Nat) : ∀ (k : Nat) (acc : Array Nat), ((List.replicate k c).foldl (· ++ ·) acc).toList = acc.toList ++ (List.replicate k c.toList).flatten
  | 0, acc => by simp
  | k + 1, acc => by
    rw [List.replicate_succ, List.foldl_cons, rep_acc c k, List.replicate_succ, List.flatten_cons, Array.toList_append, List.append_assoc]
theorem repS_cps (t : Str) (n : Nat) : (repS t n).cps.toList = (List.replicate n t.cps.toList).flatten := by
  unfold repS
  rw [rep_acc]
  rfl
theorem flat_len {l : List Nat} : ∀ n, (List.replicate n l).flatten.length = n * l.length
  | 0 => by simp
  | n + 1 => by rw [List.replicate_succ, List.flatten_cons, List.length_append, flat_len n, Nat.succ_mul, Nat.add_comm]
theorem repS_len (t : Str) (n : Nat) : (repS t n).length = n * t.length := by
  rw [str_len, repS_cps, flat_len, ← str_len]
theorem repS_one (t : Str) : repS t 1 = t := str_ext (by rw [repS_cps]; simp)
theorem op_mulS {X : Cx} : OpR X (binaryOp .Mult) (fun x y H Q => ∃ (t : Str) (n : Nat), x = .str t ∧ y = .int (n : Int) ∧ t.length ≤ 1000 ∧ n ≤ 1000 ∧ Q (.str (repS t n)) H) := by
  intro pins s σ H x y v u Q I rx ry h
  obtain ⟨t, n, rfl, rfl, hl, hn, q⟩ := h
  obtain ⟨k, rfl⟩ := rx
  obtain ⟨k', rfl⟩ := ry
  have p63 : (2 : Int) ^ 63 = 9223372036854775808 := by decide
  have hm : t.length * n ≤ 1000000 := by
    have := Nat.mul_le_mul hl hn
    omega
  have hT : tooLong (t.length * n) = false := by
    unfold tooLong
    have : (1000000 : Nat) ≤ sizeLine := by decide
    rw [decide_eq_false_iff_not]
    omega
  refine PySem.P.mul_str ?_ (fun h1 _ => ?_) (fun h1 _ => by rw [Int.toNat_natCast]; exact hT) ?_
  · rw [p63, decide_eq_false (by omega), decide_eq_false (by omega)]
    rfl
  · have h2 : (0 : Int) < (n : Int) := by omega
    have h3 : (1000 : Int) ≤ (2 ^ 63 - 1) / (n : Int) := by
      rw [p63]
      refine (Int.le_ediv_iff_mul_le h2).mpr ?_
      omega
    omega
  · by_cases h1 : (n : Int) < 1
    · rw [if_pos h1]
      have : n = 0 := by omega
      subst this
      exact ⟨by decide, ⟨.str (repS t 0), H, I.tok _, ⟨_, rfl⟩, q⟩⟩
    · rw [if_neg h1]
      by_cases h2 : ((n : Int) == 1 || t.length == 0) = true
      · rw [if_pos h2]
        have e : repS t n = t := by
          rw [Bool.or_eq_true, beq_iff_eq, beq_iff_eq] at h2
          rcases h2 with h2 | h2
          · have : n = 1 := by omega
            rw [this, repS_one]
          · refine str_ext ?_
            have z : t.cps.toList = [] := List.eq_nil_of_length_eq_zero (by rw [← str_len]; exact h2)
            rw [repS_cps, z]
            exact List.eq_nil_of_length_eq_zero (by rw [flat_len]; simp)
        exact ⟨.str (repS t n), H, I, ⟨k, by rw [e]⟩, q⟩
      · rw [if_neg h2]
        refine ⟨fits_reps (by rw [Int.toNat_natCast]; exact hT), ?_⟩
        rw [Int.toNat_natCast]
        exact ⟨.str (repS t n), H, I.tok _, ⟨_, rfl⟩, q⟩
section
variable {X : Cx} {ss ts : List Slot} {Φ : List Slot → Slot → Prop} {a b : Expr} {pos : Pos}
/-- text * number -/
theorem eMulS (h : EV X a ss ts fun s1 r1 => EV X b s1 (r1 :: ts) fun s r2 => ∃ (t : Str) (n : Nat), r1 = .own (.str t) ∧ r2 = .own (.int (n : Int)) ∧ t.length ≤ 1000 ∧ n ≤ 1000 ∧ Φ s (.own (.str (repS t n)))) : EV X (.BinOp a .Mult b pos) ss ts Φ :=
  ev_op2 op_mulS (h.imp fun s1 r1 h1 => h1.imp fun s r2 ⟨t, n, e1, e2, hl, hn, q⟩ => ⟨.str t, .int (n : Int), .str (repS t n), by rw [e1]; exact Slot.is_own, by rw [e2]; exact Slot.is_own, fun H x y rx ry => ⟨.str (repS t n), fun H => o_str, fun Q q => by
    rw [rep_str] at rx
    rw [rep_int] at ry
    exact ⟨t, n, rx, ry, hl, hn, q⟩⟩, q⟩)
end
end DL
namespace K03
open PySem PySem.Spec PyProof.Rows L2 DL
def two (t : Str) : List Str := [t ++ "0", t ++ "1"]
def chs : Nat → List Str
  | 0 => [""]
  | n + 1 => (chs n).flatMap two
theorem chs_ok : ∀ (n : Nat) (t : Str), t ∈ chs n → t.length = n ∧ PyData.strOk t = true
  | 0, t, h => by
    have e : t = "" := List.mem_singleton.mp h
    rw [e]
    exact ⟨rfl, by decide +kernel⟩
  | n + 1, t, h => by
    obtain ⟨u, hu, h2⟩ := List.mem_flatMap.mp h
    obtain ⟨l, o⟩ := chs_ok n u hu
    rw [strOk_iff] at o
    have go : ∀ c : Str, c.length = 1 → PyData.strOk c = true → (u ++ c).length = n + 1 ∧ PyData.strOk (u ++ c) = true := fun c h1 h2 => by
      rw [strOk_iff] at h2 ⊢
      rw [str_len] at l h1 ⊢
      rw [str_app_cps]
      refine ⟨by rw [List.length_append]; omega, fun x hx => ?_⟩
      rcases List.mem_append.mp hx with hx | hx
      · exact o x hx
      · exact h2 x hx
    unfold two at h2
    rcases List.mem_cons.mp h2 with rfl | h2
    · exact go "0" (by decide +kernel) (by decide +kernel)
    · rcases List.mem_cons.mp h2 with rfl | h2
      · exact go "1" (by decide +kernel) (by decide +kernel)
      · cases h2
def sel (l : Int) (t : Str) : Bool := decide (l ≤ Txt.count t "1")
/-- the signs of n, k of them -/
def low : Nat → Nat → List Nat
  | 0, _ => []
  | k + 1, n => (48 + n / 2 ^ k % 2) :: low k n
def txt (k n : Nat) : Str := ⟨(low k n).toArray⟩
def ones (t : Str) : Nat := (t.cps.toList.filter (· == 49)).length
def keep (m : Nat) (l : Int) (n : Nat) : Bool := decide (n / 2 ^ m = 0) && decide (l ≤ (ones (txt m n) : Int))
theorem txt_len (m n : Nat) : (txt m n).length = m := by
  rw [str_len]
  show (low m n).toArray.toList.length = m
  rw [List.toList_toArray]
  induction m with
  | zero => rfl
  | succ m ih => unfold low; rw [List.length_cons, ih]
theorem low_ok (m n : Nat) : ∀ c ∈ low m n, c < 50 := by
  induction m with
  | zero => intro c h; cases h
  | succ m ih =>
    intro c h
    unfold low at h
    rcases List.mem_cons.mp h with rfl | h
    · omega
    · exact ih c h
theorem txt_ok (m n : Nat) : PyData.strOk (txt m n) = true := strOk_iff.mpr fun c hc => by
  have h := low_ok m n c (by simpa [txt] using hc)
  omega
theorem ground1 : ∀ m, m < 6 → ((List.range 32).filter fun n => decide (n / 2 ^ m = 0)).map (txt m) = chs m := by decide +kernel
theorem ground2 : ∀ m, m < 6 → ∀ t, t ∈ chs m → Txt.count t "1" = (ones t : Int) := by decide +kernel
theorem main {m : Nat} (hm : m < 6) (l : Int) : ((List.range 32).filter (keep m l)).map (txt m) = (chs m).filter (sel l) := by
  have e : keep m l = fun n => (fun t => decide (l ≤ (ones t : Int))) (txt m n) && decide (n / 2 ^ m = 0) := by
    funext n
    unfold keep
    rw [Bool.and_comm]
  rw [e, ← List.filter_filter]
  have e2 : ((List.range 32).filter fun n => decide (n / 2 ^ m = 0)).filter (fun n => (fun t => decide (l ≤ (ones t : Int))) (txt m n)) = ((List.range 32).filter fun n => decide (n / 2 ^ m = 0)).filter ((fun t => decide (l ≤ (ones t : Int))) ∘ txt m) := rfl
  rw [e2, ← List.filter_map, ground1 m hm]
  refine List.filter_congr fun t ht => ?_
  unfold sel
  rw [ground2 m hm t ht]
/-! sorted texts -/
theorem lt_irr : ∀ a : List Nat, ltCps a a = false
  | [] => rfl
  | a :: r => by unfold ltCps; rw [lt_irr r]; simp
theorem lt_tri : ∀ a b : List Nat, ltCps a b = false → ltCps b a = false → a = b
  | [], [], _, _ => rfl
  | [], b :: t, h, _ => by unfold ltCps at h; cases h
  | a :: r, [], _, h => by unfold ltCps at h; cases h
  | a :: r, b :: t, h1, h2 => by
    unfold ltCps at h1 h2
    simp only [Bool.or_eq_false_iff, decide_eq_false_iff_not, Nat.not_lt, Bool.and_eq_false_iff, beq_eq_false_iff_ne] at h1 h2
    have e : a = b := by omega
    subst e
    rw [lt_tri r t (by rcases h1.2 with h | h; exact absurd rfl h; exact h) (by rcases h2.2 with h | h; exact absurd rfl h; exact h)]
theorem le_trans' : ∀ a b c : List Nat, ltCps b a = false → ltCps c b = false → ltCps c a = false
  | a, b, [], h1, h2 => by
    cases b with
    | nil => exact h1
    | cons _ _ => unfold ltCps at h2; cases h2
  | [], b, c :: t, _, _ => by unfold ltCps; rfl
  | a :: r, [], c :: t, h1, _ => by unfold ltCps at h1; cases h1
  | a :: r, b :: s, c :: t, h1, h2 => by
    unfold ltCps at h1 h2 ⊢
    simp only [Bool.or_eq_false_iff, decide_eq_false_iff_not, Nat.not_lt, Bool.and_eq_false_iff, beq_eq_false_iff_ne] at h1 h2 ⊢
    refine ⟨by omega, ?_⟩
    by_cases e : c = a
    · refine .inr ?_
      have e1 : b = a := by omega
      have e2 : c = b := by omega
      exact le_trans' r s t (by rcases h1.2 with h | h; exact absurd e1 h; exact h) (by rcases h2.2 with h | h; exact absurd e2 h; exact h)
    · exact .inl e
def leS (a b : Str) : Prop := ltCps b.cps.toList a.cps.toList = false
theorem rising_pw : ∀ (p : Str) (l : List Str), risingS p l = true → (p :: l).Pairwise leS
  | p, [], _ => by simp
  | p, x :: r, h => by
    unfold risingS at h
    rw [Bool.and_eq_true, Bool.not_eq_true'] at h
    have ih := rising_pw x r h.2
    refine List.pairwise_cons.mpr ⟨fun y hy => ?_, ih⟩
    rcases List.mem_cons.mp hy with rfl | hy
    · exact h.1
    · exact le_trans' _ _ _ h.1 ((List.pairwise_cons.mp ih).1 y hy)
theorem sorted_pw {l : List Str} (h : sortedS l = true) : l.Pairwise leS := by
  cases l with
  | nil => exact List.Pairwise.nil
  | cons x r => exact rising_pw x r h
theorem sorted_same {l k : List Str} (p : l.Perm k) (h1 : l.Pairwise leS) (h2 : k.Pairwise leS) : l = k :=
  List.Perm.eq_of_pairwise (fun a b _ _ ha hb => str_ext (lt_tri _ _ hb ha)) h1 h2 p
theorem chs_sorted : ∀ m, m < 6 → sortedS (chs m) = true := by decide +kernel
theorem sel_sorted {m : Nat} (hm : m < 6) (l : Int) : ((chs m).filter (sel l)).Pairwise leS := (sorted_pw (chs_sorted m hm)).filter _
theorem chs_count : ∀ m, m < 6 → (chs m).length ≤ 32 := by decide +kernel
end K03
namespace K15
open PySem PySem.Spec PyProof.Rows L2 DL K03
def top (i : Nat) : Stmt := PySem.Challenge.pw_eitherslack_k15_refusals_made.main.body.getD i (.Pass ⟨0, 0, 0, 0⟩)
-- 0 __name__ = 'eitherslack.errors'
-- 1 class SlackError []
-- 2 class NoNumber ['__init__']
-- 2 NoNumber.__init__(self, top) dflt []
abbrev s_NoNumber___init__ : Stmt := methOf (top 2) 0
abbrev n_NoNumber___init__ : List Str := ["self", "top"]
abbrev p_NoNumber___init__ : List Str := ["self", "top"]
theorem sc_NoNumber___init__ : FnScope n_NoNumber___init__ p_NoNumber___init__ (defScope s_NoNumber___init__) := ⟨rfl, rfl, rfl, by decide +kernel, rfl, by decide +kernel, by decide +kernel⟩
-- 3 class NoTable ['__init__']
-- 3 NoTable.__init__(self, place) dflt []
abbrev s_NoTable___init__ : Stmt := methOf (top 3) 0
abbrev n_NoTable___init__ : List Str := ["self", "place"]
abbrev p_NoTable___init__ : List Str := ["self", "place"]
theorem sc_NoTable___init__ : FnScope n_NoTable___init__ p_NoTable___init__ (defScope s_NoTable___init__) := ⟨rfl, rfl, rfl, by decide +kernel, rfl, by decide +kernel, by decide +kernel⟩
-- 4 class NoRow []
-- 5 class NoChoice []
-- 6 class Flat ['__init__']
-- 6 Flat.__init__(self, choice) dflt []
abbrev s_Flat___init__ : Stmt := methOf (top 6) 0
abbrev n_Flat___init__ : List Str := ["self", "choice"]
abbrev p_Flat___init__ : List Str := ["self", "choice"]
theorem sc_Flat___init__ : FnScope n_Flat___init__ p_Flat___init__ (defScope s_Flat___init__) := ⟨rfl, rfl, rfl, by decide +kernel, rfl, by decide +kernel, by decide +kernel⟩
-- 7 class NoSaying []
-- 8 class Lifted ['__init__']
-- 8 Lifted.__init__(self, row, column) dflt []
abbrev s_Lifted___init__ : Stmt := methOf (top 8) 0
abbrev n_Lifted___init__ : List Str := ["self", "row", "column"]
abbrev p_Lifted___init__ : List Str := ["self", "row", "column"]
theorem sc_Lifted___init__ : FnScope n_Lifted___init__ p_Lifted___init__ (defScope s_Lifted___init__) := ⟨rfl, rfl, rfl, by decide +kernel, rfl, by decide +kernel, by decide +kernel⟩
-- 9 class NoCover []
-- 10 class Dipped ['__init__']
-- 10 Dipped.__init__(self, row) dflt []
abbrev s_Dipped___init__ : Stmt := methOf (top 10) 0
abbrev n_Dipped___init__ : List Str := ["self", "row"]
abbrev p_Dipped___init__ : List Str := ["self", "row"]
theorem sc_Dipped___init__ : FnScope n_Dipped___init__ p_Dipped___init__ (defScope s_Dipped___init__) := ⟨rfl, rfl, rfl, by decide +kernel, rfl, by decide +kernel, by decide +kernel⟩
-- 11 class NotOne ['__init__']
-- 11 NotOne.__init__(self, choice) dflt []
abbrev s_NotOne___init__ : Stmt := methOf (top 11) 0
abbrev n_NotOne___init__ : List Str := ["self", "choice"]
abbrev p_NotOne___init__ : List Str := ["self", "choice"]
theorem sc_NotOne___init__ : FnScope n_NotOne___init__ p_NotOne___init__ (defScope s_NotOne___init__) := ⟨rfl, rfl, rfl, by decide +kernel, rfl, by decide +kernel, by decide +kernel⟩
-- 12 class NoText []
-- 13 class NoLine []
-- 14 class NoName ['__init__']
-- 14 NoName.__init__(self, name) dflt []
abbrev s_NoName___init__ : Stmt := methOf (top 14) 0
abbrev n_NoName___init__ : List Str := ["self", "name"]
abbrev p_NoName___init__ : List Str := ["self", "name"]
theorem sc_NoName___init__ : FnScope n_NoName___init__ p_NoName___init__ (defScope s_NoName___init__) := ⟨rfl, rfl, rfl, by decide +kernel, rfl, by decide +kernel, by decide +kernel⟩
-- 15 __name__ = 'law_eitherslack_k15_refusals_made'
-- 16 _law_mixed(_law_cell, _law_k) dflt []
abbrev s__law_mixed : Stmt := top 16
abbrev n__law_mixed : List Str := ["_law_cell", "_law_k", "_law_number"]
abbrev p__law_mixed : List Str := ["_law_cell", "_law_k"]
theorem sc__law_mixed : FnScope n__law_mixed p__law_mixed (defScope s__law_mixed) := ⟨rfl, rfl, rfl, by decide +kernel, rfl, by decide +kernel, by decide +kernel⟩
-- 17 _law_pile(_law_script, _law_k) dflt []
abbrev s__law_pile : Stmt := top 17
abbrev n__law_pile : List Str := ["_law_script", "_law_k", "_law_cell"]
abbrev p__law_pile : List Str := ["_law_script", "_law_k"]
theorem sc__law_pile : FnScope n__law_pile p__law_pile (defScope s__law_pile) := ⟨rfl, rfl, rfl, by decide +kernel, rfl, by decide +kernel, by decide +kernel⟩
-- 18 _law_take(_law_pile_here, _law_many) dflt []
abbrev s__law_take : Stmt := top 18
abbrev n__law_take : List Str := ["_law_pile_here", "_law_many", "_law_digit"]
abbrev p__law_take : List Str := ["_law_pile_here", "_law_many"]
theorem sc__law_take : FnScope n__law_take p__law_take (defScope s__law_take) := ⟨rfl, rfl, rfl, by decide +kernel, rfl, by decide +kernel, by decide +kernel⟩
-- 19 _law_kind(_law_error) dflt []
abbrev s__law_kind : Stmt := top 19
abbrev n__law_kind : List Str := ["_law_error", "_law_found", "_law_plain_here", "_law_words", "_law_word", "_law_truth"]
abbrev p__law_kind : List Str := ["_law_error"]
theorem sc__law_kind : FnScope n__law_kind p__law_kind (defScope s__law_kind) := ⟨rfl, rfl, rfl, by decide +kernel, rfl, by decide +kernel, by decide +kernel⟩
-- 20 _law_plain() dflt []
abbrev s__law_plain : Stmt := top 20
abbrev n__law_plain : List Str := ["_law_some", "_law_more", "_law_words", "_law_one", "_law_word"]
abbrev p__law_plain : List Str := []
theorem sc__law_plain : FnScope n__law_plain p__law_plain (defScope s__law_plain) := ⟨rfl, rfl, rfl, by decide +kernel, rfl, by decide +kernel, by decide +kernel⟩
-- 21 law(_law_script) dflt []
abbrev s_law : Stmt := top 21
abbrev n_law : List Str := ["_law_script", "_law_pile_here", "_law_made", "_law_due", "_law_turn", "_law_number", "_law_other", "_law_text", "_law_my_row", "_law_k", "_law_one"]
abbrev p_law : List Str := ["_law_script"]
theorem sc_law : FnScope n_law p_law (defScope s_law) := ⟨rfl, rfl, rfl, by decide +kernel, rfl, by decide +kernel, by decide +kernel⟩
section
variable {P : Program} {w : World} {K : PySem.W.Frag} {mg : Str → Option Value} {base : Heap}
def F__law_mixed : List D → (D → Prop) → Prop := fun ds k => ∃ x y : Int, ds = [.int x, .int y] ∧ y.natAbs < 2 ^ 100 ∧ ∀ r, k (.int r)
theorem ok__law_mixed {f : Addr} {fd : FuncData} (Fn : FunD K "_law_mixed" "_law_mixed" (defArgs s__law_mixed) (defBody s__law_mixed) (defScope s__law_mixed) [] [] f fd) : FnOk P w K mg base CX0 1 f fd p__law_mixed (spP K F__law_mixed) := by
  refine fun_okP Fn sc__law_mixed (fun ds q ⟨_, _, e, _⟩ => by rw [e]; rfl) fun cdv A outer s H E hr ds k hF => ?_
  obtain ⟨x, y, rfl, hy, hk⟩ := hF
  have nd := sc__law_mixed.nd
  have c1 : CMulW (x % 2147483647) 48271 := cmul 40 40 (by omega) (by decide) (by decide) (by decide) (by decide)
  have c2 : CMulW y 69621 := cmul 100 40 hy (by decide) (by decide) (by decide) (by decide)
  refine sv_cons (sSet 2 nd <| eMod <| eAdd <| eAdd <| eMul <| eMod <| nm 0 <| ev_int ⟨by decide, ev_int ⟨c1, eMul <| nm 1 <| ev_int ⟨c2, ev_int <| ev_int ⟨by decide, rfl, rfl, ?_⟩⟩⟩⟩)
  generalize (x % 2147483647 * 48271 + y * 69621 + 11) = z
  refine sv_norm (ss' := [.par (.int x), .par (.int y), .own (.int (z % 2147483647))]) (by rfl) ?_
  have c3 : CMulW (z % 2147483647) (z % 2147483647) := cmul 40 40 (by omega) (by omega) (by decide) (by decide) (by decide)
  refine sv_cons (sSet 2 nd <| eMod <| eMul <| nm 2 <| nm 2 ⟨c3, ev_int ⟨by decide, rfl, rfl, ?_⟩⟩)
  generalize z % 2147483647 * (z % 2147483647) = u
  refine sv_norm (ss' := [.par (.int x), .par (.int y), .own (.int (u % 2147483629))]) (by rfl) ?_
  have c4 : CMulW (u % 2147483629) (u % 2147483629) := cmul 40 40 (by omega) (by omega) (by decide) (by decide) (by decide)
  refine sv_one (s1_ret <| eDiv <| eMod <| eMul <| nm 2 <| nm 2 ⟨c4, ev_int ⟨by decide, ev_int ⟨cdiv 10 (by decide) (by decide) (by decide) (by decide), _, rfl, hk _⟩⟩⟩)
def F__law_pile : List D → (D → Prop) → Prop := fun ds k => ∃ (ns : List Int) (i : Nat), ds = [.fz (ns.map D.int), .int i] ∧ i ≤ 100 ∧ ∀ d, Pile 10000 d → k d
theorem ok__law_pile {f : Addr} {fd : FuncData} (Fn : FunD K "_law_pile" "_law_pile" (defArgs s__law_pile) (defBody s__law_pile) (defScope s__law_pile) [] [] f fd) (T : Txt mg) : FnOk P w K mg base CX0 1 f fd p__law_pile (spP K F__law_pile) := by
  refine fun_okP Fn sc__law_pile (fun ds q ⟨_, _, e, _⟩ => by rw [e]; rfl) fun cdv A outer s H E hr ds k hF => ?_
  obtain ⟨ns, i, rfl, hi, hk⟩ := hF
  have nd := sc__law_pile.nd
  refine sv_cons (sSet 2 nd <| ev_int ⟨rfl, rfl, ?_⟩)
  refine sv_norm (ss' := [.par (.fz (ns.map D.int)), .par (.int i), .own (.int 0)]) (by rfl) ?_
  refine sv_cons (s1_if <| tLt <| nm 1 <| eLen rfl T.len <| nm 0 ?_)
  have rest : ∀ c : Int, SV (cxOf CX0 P w K mg base n__law_pile "_law_pile" (defScope s__law_pile) f cdv A outer s H E).nox [] ((defBody s__law_pile).drop 2) [.par (.fz (ns.map D.int)), .par (.int i), .own (.int c)] [] { nx := fun _ => k .non, rt := fun _ r => ∃ d, r = .own d ∧ k d } := fun c => by
    have e50 : (10 : Int) ^ (50 : Int).toNat = 100000000000000000000000000000000000000000000000000 := by decide +kernel
    have e18 : (10 : Int) ^ (18 : Int).toNat = 1000000000000000000 := by decide +kernel
    refine sv_one (s1_ret <| dLst <| av_cons <| eIx <| dLst <| av_cons <| ev_int <| av_cons <| eMod <| nm 2 <| eMul <| eMul <| ePow <| ev_int <| ev_int ⟨⟨by decide, by decide, by decide⟩, ePow <| ev_int <| ev_int ⟨⟨by decide, by decide, by decide⟩, ?_⟩⟩)
    rw [e50]
    refine ⟨cmul 200 200 (by decide +kernel) (by decide +kernel) (by decide) (by decide) (by decide), ePow <| ev_int <| ev_int ⟨⟨by decide, by decide, by decide⟩, ?_⟩⟩
    rw [e50]
    refine ⟨cmul 400 200 (by decide +kernel) (by decide +kernel) (by decide) (by decide) (by decide), by decide, av_nil ⟨rfl, eIntB T.int <| eGe <| eAbs T.abs <| nm 2 <| ePow <| ev_int <| ev_int ⟨⟨by decide, by decide, by decide⟩, ?_⟩⟩⟩
    rw [e18]
    have hz0 := Int.emod_nonneg c (show (100000000000000000000000000000000000000000000000000 * 100000000000000000000000000000000000000000000000000 * 100000000000000000000000000000000000000000000000000 : Int) ≠ 0 by decide)
    have hz1 : (c % (100000000000000000000000000000000000000000000000000 * 100000000000000000000000000000000000000000000000000 * 100000000000000000000000000000000000000000000000000)).natAbs < 2 ^ 500 := by
      have h2 := Int.emod_lt_of_pos c (show (0 : Int) < 100000000000000000000000000000000000000000000000000 * 100000000000000000000000000000000000000000000000000 * 100000000000000000000000000000000000000000000000000 by decide)
      have h3 : (100000000000000000000000000000000000000000000000000 * 100000000000000000000000000000000000000000000000000 * 100000000000000000000000000000000000000000000000000 : Int) < 2 ^ 500 := by decide +kernel
      have h4 : ((2 ^ 500 : Nat) : Int) = 2 ^ 500 := by decide +kernel
      omega
    generalize c % (100000000000000000000000000000000000000000000000000 * 100000000000000000000000000000000000000000000000000 * 100000000000000000000000000000000000000000000000000) = z at hz0 hz1 ⊢
    refine ⟨_, atI_if, rfl, av_cons <| eMod <| nm 2 <| ev_int ⟨by decide, av_cons <| eMul <| ev_int <| nm 1 ⟨cmul 10 10 (by decide) ?_ (by decide) (by decide) (by decide), av_nil ⟨rfl, _, rfl, hk _ ⟨_, _, _, rfl, ite_nn hz0, ite_lt hz1 (Nat.two_pow_pos _), ?_, ?_, ?_⟩⟩⟩⟩⟩
    · omega
    · omega
    · omega
    · omega
  by_cases hlt : i < ns.length
  · refine ⟨fun _ => sv_one <| sSet 2 nd <| eIx <| nm 0 <| nm 1 ⟨.int ns[i], ?_, rfl, rfl, rfl, rest _⟩, fun e => absurd (of_decide_eq_false e) ?_⟩
    · unfold atI ixN
      rw [if_pos (by omega), if_pos (by rw [List.length_map]; omega)]
      simp [hlt]
    · rw [List.length_map]
      omega
  · refine ⟨fun e => absurd (of_decide_eq_true e) ?_, fun _ => sv_nil (rest 0)⟩
    rw [List.length_map]
    omega
def F__law_take : D → List D → (D → D → Prop) → Prop := fun d0 ds k => ∃ (n : Nat) (m : Int), ds = [.int m] ∧ (Pile n d0 ∧ 0 < m ∧ m < 2 ^ 100 ∧ n ≤ 2 ^ 60) ∧ ∀ d' r, Pile (n + 1) d' → 0 ≤ r → r < m → k d' (.int r)
theorem ok__law_take {f : Addr} {fd : FuncData} (Fn : FunD K "_law_take" "_law_take" (defArgs s__law_take) (defBody s__law_take) (defScope s__law_take) [] [] f fd) {f1 : Addr} {fd1 : FuncData} (C : DefAt P w K mg base CX0 1 "_law_mixed" p__law_mixed f1 fd1 [] F__law_mixed) : FnOk P w K mg base CX0 2 f fd p__law_take (spI K F__law_take) := by
  refine fun_okI Fn sc__law_take (fun d0 ds q ⟨_, _, e, _⟩ => by rw [e]; rfl) fun cdv A outer s H E hr d0 ds k hF => ?_
  obtain ⟨n, m, rfl, ⟨⟨a, b, c, rfl, ha0, ha, hb, hc0, hc⟩, hm0, hm, hn⟩, hk⟩ := hF
  have nd := sc__law_take.nd
  have hmb : m.natAbs < 2 ^ 100 := by
    have h4 : ((2 ^ 100 : Nat) : Int) = 2 ^ 100 := by decide +kernel
    omega
  refine sv_cons (s1_if <| eIn <| eIx <| nm 0 <| ev_int ⟨_, rfl, rfl, dLst <| av_cons <| ev_int <| av_cons <| eNeg <| ev_int <| av_nil ⟨rfl, _, _, rfl, rfl, fun _ => ?_, fun _ => sv_nil ?_⟩⟩)
  · refine sv_cons (s1_asg (as := []) (eAdd <| eIx <| nm 0 <| ev_int ⟨_, rfl, rfl, ev_int <| gv_store 0 <| ev_int ⟨_, _, _, _, rfl, Slot.is_own, rfl, rfl, ?_⟩⟩) (by decide))
    refine sv_norm (ss' := [.own (.lst [.int a, .int b, .int (c + 1)]), .par (.int m), .no]) (by rfl) ?_
    have hcb : (c + 1).natAbs < 2 ^ 100 := by
      have h4 : (2 ^ 60 : Nat) + 1 < 2 ^ 100 := by decide +kernel
      omega
    refine sv_one (s1_ret <| eMod <| cCall C hr (by decide) <| av_cons <| eIx <| nm 0 <| ev_int ⟨_, rfl, rfl, av_cons <| eIx <| nm 0 <| ev_int ⟨_, rfl, rfl, av_nil ⟨_, _, rfl, hcb, fun r => nm 1 ⟨hm0, _, _, rfl, rfl, hk _ _ ⟨_, _, _, rfl, ha0, ha, hb, by omega, by omega⟩ (Int.emod_nonneg _ (by omega)) (Int.emod_lt_of_pos _ hm0)⟩⟩⟩⟩)
  · refine sv_cons (sSet 2 nd <| eMod <| eIx <| nm 0 <| ev_int ⟨_, rfl, rfl, nm 1 ⟨hm0, rfl, rfl, ?_⟩⟩)
    refine sv_norm (ss' := [.own (.lst [.int a, .int b, .int c]), .par (.int m), .own (.int (a % m))]) (by rfl) ?_
    refine sv_cons (s1_asg (as := []) (eDiv <| eIx <| nm 0 <| ev_int ⟨_, rfl, rfl, nm 1 ⟨cdiv 100 hm0 hmb (by decide) (by decide), gv_store 0 <| ev_int ⟨_, _, _, _, rfl, Slot.is_own, rfl, rfl, ?_⟩⟩⟩) (by decide))
    refine sv_norm (ss' := [.own (.lst [.int (a / m), .int b, .int c]), .par (.int m), .own (.int (a % m))]) (by rfl) ?_
    refine sv_one (s1_ret <| nm 2 ⟨_, _, rfl, rfl, hk _ _ ⟨_, _, _, rfl, Int.ediv_nonneg ha0 (by omega), ?_, hb, hc0, by omega⟩ (Int.emod_nonneg _ (by omega)) (Int.emod_lt_of_pos _ hm0)⟩)
    have := Int.ediv_le_self m ha0
    have := Int.ediv_nonneg ha0 (show 0 ≤ m by omega)
    omega
/-- the fields of a refusal, the last stored first -/
def nsOf (x : Str) : List Str := if x = "NoNumber" then ["top"] else if x = "NoTable" then ["place"] else if x = "Flat" then ["choice"] else if x = "Lifted" then ["column", "row"] else if x = "Dipped" then ["row"] else if x = "NotOne" then ["choice"] else if x = "NoName" then ["name"] else []
def kP (x : Str) (l : List D) (y w : Str) (g : List D → List D) : List D := if x = y then D.str w :: g l else []
def A0 (x : Str) (l : List D) : List D := []
def A1 (x : Str) (l : List D) : List D := A0 x l ++ kP x l "NoNumber" "number" (fun l => l)
def A2 (x : Str) (l : List D) : List D := A1 x l ++ kP x l "NoTable" "table" (fun l => l)
def A3 (x : Str) (l : List D) : List D := A2 x l ++ kP x l "Flat" "flat" (fun l => l)
def A4 (x : Str) (l : List D) : List D := A3 x l ++ kP x l "Lifted" "lifted" (fun l => l.reverse)
def A5 (x : Str) (l : List D) : List D := A4 x l ++ kP x l "Dipped" "dipped" (fun l => l)
def A6 (x : Str) (l : List D) : List D := A5 x l ++ kP x l "NotOne" "not one" (fun l => l)
def A7 (x : Str) (l : List D) : List D := A6 x l ++ kP x l "NoName" "name" (fun l => l)
def kTail (x : Str) : List D := (((["no row", "choice", "saying", "cover", "text", "line"] : List Str).zip (LP.map fun y => decide (x = y))).filter (·.2)).map fun p => D.str p.1
/-- what _law_kind tells of it -/
def kindOf (x : Str) (l : List D) : List D := A7 x l ++ kTail x
def F__law_kind (K : PySem.W.Frag) : List D → (D → Prop) → Prop := fun ds k => ∃ (x : Str) (l : List D), ds = [.exc (He.ga K x) (nsOf x) l] ∧ (x ∈ LS ∧ l.length = (nsOf x).length ∧ D.flats l = true) ∧ k (.lst (kindOf x l))
set_option maxHeartbeats 4000000 in
theorem ok__law_kind {f : Addr} {fd : FuncData} (Fn : FunD K "_law_kind" "_law_kind" (defArgs s__law_kind) (defBody s__law_kind) (defScope s__law_kind) [] [] f fd) (T : Txt mg) (X : XFS K mg) : FnOk P w K mg base CX0 1 f fd p__law_kind (spP K (F__law_kind K)) := by
  refine fun_okP Fn sc__law_kind (fun ds q ⟨_, _, e, _⟩ => by rw [e]; rfl) fun cdv A outer s H E hr ds k hF => ?_
  obtain ⟨x, l, rfl, ⟨hx, hlen, hfl⟩, hk⟩ := hF
  have nd := sc__law_kind.nd
  have hf : (D.exc (He.ga K x) (nsOf x) l).flat = true := by unfold D.flat; exact hfl
  have one : ∀ y : Str, (nsOf y).length = 1 → x = y → ∃ d, l = [d] ∧ d.flat = true := fun y h1 e => by
    rw [e, h1] at hlen
    obtain ⟨d, rfl⟩ := List.length_eq_one_iff.mp hlen
    refine ⟨d, rfl, ?_⟩
    unfold D.flats at hfl
    rw [Bool.and_eq_true] at hfl
    exact hfl.1
  have flatA : ∀ {a : List D} (y w : Str) (g : List D → List D), (∀ l, D.flats l = true → D.flats (g l) = true) → D.flats a = true → D.flats (a ++ kP x l y w g) = true := fun y w g hg ha => by
    rw [D.flats_append, ha, Bool.true_and]
    unfold kP
    split
    · unfold D.flats; rw [hg l hfl]; rfl
    · unfold D.flats; rfl
  have flatR : ∀ l : List D, D.flats l = true → D.flats l.reverse = true := fun l hl => by
    refine D.flats_of fun d hd => ?_
    exact D.flats_mem hl d (List.mem_reverse.mp hd)
  have f0 : D.flats (A0 x l) = true := by unfold A0 D.flats; rfl
  have f1 : D.flats (A1 x l) = true := flatA _ _ _ (fun _ h => h) f0
  have f2 : D.flats (A2 x l) = true := flatA _ _ _ (fun _ h => h) f1
  have f3 : D.flats (A3 x l) = true := flatA _ _ _ (fun _ h => h) f2
  have f4 : D.flats (A4 x l) = true := flatA _ _ _ (flatR) f3
  have f5 : D.flats (A5 x l) = true := flatA _ _ _ (fun _ h => h) f4
  have f6 : D.flats (A6 x l) = true := flatA _ _ _ (fun _ h => h) f5
  have f7 : D.flats (A7 x l) = true := flatA _ _ _ (fun _ h => h) f6
  have lenA : ∀ {a : List D} {n : Nat} (y w : Str) (g : List D → List D), (g l).length = l.length → a.length ≤ n → (a ++ kP x l y w g).length ≤ n + 3 := fun y w g hg ha => by
    have l2 : l.length ≤ 2 := by
      rw [hlen]
      unfold nsOf
      repeat (split; · decide)
      decide
    rw [List.length_append]
    unfold kP
    split
    · rw [List.length_cons]; omega
    · rw [List.length_nil]; omega
  have n0 : (A0 x l).length ≤ 0 := Nat.le_refl _
  have n1 : (A1 x l).length ≤ 3 := lenA _ _ _ rfl n0
  have n2 : (A2 x l).length ≤ 6 := lenA _ _ _ rfl n1
  have n3 : (A3 x l).length ≤ 9 := lenA _ _ _ rfl n2
  have n4 : (A4 x l).length ≤ 12 := lenA _ _ _ (List.length_reverse) n3
  have n5 : (A5 x l).length ≤ 15 := lenA _ _ _ rfl n4
  have n6 : (A6 x l).length ≤ 18 := lenA _ _ _ rfl n5
  have n7 : (A7 x l).length ≤ 21 := lenA _ _ _ rfl n6
  refine sv_cons (sSet 1 nd <| dLst <| av_nil ⟨rfl, rfl, rfl, ?_⟩)
  refine sv_norm (ss' := [.par (.exc (He.ga K x) (nsOf x) l), .own (.lst (A0 x l)), .no, .no, .no, .no]) (by rfl) ?_
  refine sv_consI (fun s => s = [.par (.exc (He.ga K x) (nsOf x) l), .own (.lst (A1 x l)), .no, .no, .no, .no]) (s1_if <| tVal <| eIsX (He.ga K "NoNumber") T.isi (X.glo "NoNumber" (by decide)) <| vPF 0 (.inr ⟨_, _, _, decide (x = "NoNumber"), rfl, X.exc x hx, X.kit x hx "NoNumber" (by decide), fun e => ?_, fun e => sv_nil ?_⟩) (hf := hf)) ?_
  · have e := of_decide_eq_true e
    obtain ⟨d, rfl, hd⟩ := one "NoNumber" (by decide) e
    refine sv_one (sSet 1 nd <| eCat <| nm 1 <| dLst <| av_cons <| ev_str <| av_cons <| eFldX <| vPF 0 ⟨_, _, _, d, rfl, X.xfc hx, X.fld x hx "top" (by decide), by rw [e]; rfl, hd, av_nil ⟨rfl, _, _, rfl, rfl, f0, ?_, by have := n0; simp only [List.length_cons, List.length_nil]; omega, rfl, rfl, ?_⟩⟩ (hf := hf))
    · unfold D.flats D.flats D.flats; rw [hd]; rfl
    · show (_ : List Slot) = _
      unfold A1 kP
      rw [if_pos e]
      rfl
  · have e := of_decide_eq_false e
    show (_ : List Slot) = _
    unfold A1 kP
    rw [if_neg e, List.append_nil]
  rintro s rfl
  refine sv_consI (fun s => s = [.par (.exc (He.ga K x) (nsOf x) l), .own (.lst (A2 x l)), .no, .no, .no, .no]) (s1_if <| tVal <| eIsX (He.ga K "NoTable") T.isi (X.glo "NoTable" (by decide)) <| vPF 0 (.inr ⟨_, _, _, decide (x = "NoTable"), rfl, X.exc x hx, X.kit x hx "NoTable" (by decide), fun e => ?_, fun e => sv_nil ?_⟩) (hf := hf)) ?_
  · have e := of_decide_eq_true e
    obtain ⟨d, rfl, hd⟩ := one "NoTable" (by decide) e
    refine sv_one (sSet 1 nd <| eCat <| nm 1 <| dLst <| av_cons <| ev_str <| av_cons <| eFldX <| vPF 0 ⟨_, _, _, d, rfl, X.xfc hx, X.fld x hx "place" (by decide), by rw [e]; rfl, hd, av_nil ⟨rfl, _, _, rfl, rfl, f1, ?_, by have := n1; simp only [List.length_cons, List.length_nil]; omega, rfl, rfl, ?_⟩⟩ (hf := hf))
    · unfold D.flats D.flats D.flats; rw [hd]; rfl
    · show (_ : List Slot) = _
      unfold A2 kP
      rw [if_pos e]
      rfl
  · have e := of_decide_eq_false e
    show (_ : List Slot) = _
    unfold A2 kP
    rw [if_neg e, List.append_nil]
  rintro s rfl
  refine sv_consI (fun s => s = [.par (.exc (He.ga K x) (nsOf x) l), .own (.lst (A3 x l)), .no, .no, .no, .no]) (s1_if <| tVal <| eIsX (He.ga K "Flat") T.isi (X.glo "Flat" (by decide)) <| vPF 0 (.inr ⟨_, _, _, decide (x = "Flat"), rfl, X.exc x hx, X.kit x hx "Flat" (by decide), fun e => ?_, fun e => sv_nil ?_⟩) (hf := hf)) ?_
  · have e := of_decide_eq_true e
    obtain ⟨d, rfl, hd⟩ := one "Flat" (by decide) e
    refine sv_one (sSet 1 nd <| eCat <| nm 1 <| dLst <| av_cons <| ev_str <| av_cons <| eFldX <| vPF 0 ⟨_, _, _, d, rfl, X.xfc hx, X.fld x hx "choice" (by decide), by rw [e]; rfl, hd, av_nil ⟨rfl, _, _, rfl, rfl, f2, ?_, by have := n2; simp only [List.length_cons, List.length_nil]; omega, rfl, rfl, ?_⟩⟩ (hf := hf))
    · unfold D.flats D.flats D.flats; rw [hd]; rfl
    · show (_ : List Slot) = _
      unfold A3 kP
      rw [if_pos e]
      rfl
  · have e := of_decide_eq_false e
    show (_ : List Slot) = _
    unfold A3 kP
    rw [if_neg e, List.append_nil]
  rintro s rfl
  refine sv_consI (fun s => s = [.par (.exc (He.ga K x) (nsOf x) l), .own (.lst (A4 x l)), .no, .no, .no, .no]) (s1_if <| tVal <| eIsX (He.ga K "Lifted") T.isi (X.glo "Lifted" (by decide)) <| vPF 0 (.inr ⟨_, _, _, decide (x = "Lifted"), rfl, X.exc x hx, X.kit x hx "Lifted" (by decide), fun e => ?_, fun e => sv_nil ?_⟩) (hf := hf)) ?_
  · have e := of_decide_eq_true e
    obtain ⟨d1, d2, rfl⟩ : ∃ d1 d2, l = [d1, d2] := by
      rw [e] at hlen
      match l, hlen with
      | [d1, d2], _ => exact ⟨d1, d2, rfl⟩
    have hd1 : d1.flat = true := D.flats_mem hfl d1 (by simp)
    have hd2 : d2.flat = true := D.flats_mem hfl d2 (by simp)
    refine sv_one (sSet 1 nd <| eCat <| nm 1 <| dLst <| av_cons <| ev_str <| av_cons <| eFldX <| vPF 0 ⟨_, _, _, d2, rfl, X.xfc hx, X.fld x hx "row" (by decide), by rw [e]; rfl, hd2, av_cons <| eFldX <| vPF 0 ⟨_, _, _, d1, rfl, X.xfc hx, X.fld x hx "column" (by decide), by rw [e]; rfl, hd1, av_nil ⟨rfl, _, _, rfl, rfl, f3, ?_, by have := n3; simp only [List.length_cons, List.length_nil]; omega, rfl, rfl, ?_⟩⟩ (hf := hf)⟩ (hf := hf))
    · unfold D.flats D.flats D.flats D.flats; rw [hd1, hd2]; rfl
    · show (_ : List Slot) = _
      unfold A4 kP
      rw [if_pos e]
      rfl
  · have e := of_decide_eq_false e
    show (_ : List Slot) = _
    unfold A4 kP
    rw [if_neg e, List.append_nil]
  rintro s rfl
  refine sv_consI (fun s => s = [.par (.exc (He.ga K x) (nsOf x) l), .own (.lst (A5 x l)), .no, .no, .no, .no]) (s1_if <| tVal <| eIsX (He.ga K "Dipped") T.isi (X.glo "Dipped" (by decide)) <| vPF 0 (.inr ⟨_, _, _, decide (x = "Dipped"), rfl, X.exc x hx, X.kit x hx "Dipped" (by decide), fun e => ?_, fun e => sv_nil ?_⟩) (hf := hf)) ?_
  · have e := of_decide_eq_true e
    obtain ⟨d, rfl, hd⟩ := one "Dipped" (by decide) e
    refine sv_one (sSet 1 nd <| eCat <| nm 1 <| dLst <| av_cons <| ev_str <| av_cons <| eFldX <| vPF 0 ⟨_, _, _, d, rfl, X.xfc hx, X.fld x hx "row" (by decide), by rw [e]; rfl, hd, av_nil ⟨rfl, _, _, rfl, rfl, f4, ?_, by have := n4; simp only [List.length_cons, List.length_nil]; omega, rfl, rfl, ?_⟩⟩ (hf := hf))
    · unfold D.flats D.flats D.flats; rw [hd]; rfl
    · show (_ : List Slot) = _
      unfold A5 kP
      rw [if_pos e]
      rfl
  · have e := of_decide_eq_false e
    show (_ : List Slot) = _
    unfold A5 kP
    rw [if_neg e, List.append_nil]
  rintro s rfl
  refine sv_consI (fun s => s = [.par (.exc (He.ga K x) (nsOf x) l), .own (.lst (A6 x l)), .no, .no, .no, .no]) (s1_if <| tVal <| eIsX (He.ga K "NotOne") T.isi (X.glo "NotOne" (by decide)) <| vPF 0 (.inr ⟨_, _, _, decide (x = "NotOne"), rfl, X.exc x hx, X.kit x hx "NotOne" (by decide), fun e => ?_, fun e => sv_nil ?_⟩) (hf := hf)) ?_
  · have e := of_decide_eq_true e
    obtain ⟨d, rfl, hd⟩ := one "NotOne" (by decide) e
    refine sv_one (sSet 1 nd <| eCat <| nm 1 <| dLst <| av_cons <| ev_str <| av_cons <| eFldX <| vPF 0 ⟨_, _, _, d, rfl, X.xfc hx, X.fld x hx "choice" (by decide), by rw [e]; rfl, hd, av_nil ⟨rfl, _, _, rfl, rfl, f5, ?_, by have := n5; simp only [List.length_cons, List.length_nil]; omega, rfl, rfl, ?_⟩⟩ (hf := hf))
    · unfold D.flats D.flats D.flats; rw [hd]; rfl
    · show (_ : List Slot) = _
      unfold A6 kP
      rw [if_pos e]
      rfl
  · have e := of_decide_eq_false e
    show (_ : List Slot) = _
    unfold A6 kP
    rw [if_neg e, List.append_nil]
  rintro s rfl
  refine sv_consI (fun s => s = [.par (.exc (He.ga K x) (nsOf x) l), .own (.lst (A7 x l)), .no, .no, .no, .no]) (s1_if <| tVal <| eIsX (He.ga K "NoName") T.isi (X.glo "NoName" (by decide)) <| vPF 0 (.inr ⟨_, _, _, decide (x = "NoName"), rfl, X.exc x hx, X.kit x hx "NoName" (by decide), fun e => ?_, fun e => sv_nil ?_⟩) (hf := hf)) ?_
  · have e := of_decide_eq_true e
    obtain ⟨d, rfl, hd⟩ := one "NoName" (by decide) e
    refine sv_one (sSet 1 nd <| eCat <| nm 1 <| dLst <| av_cons <| ev_str <| av_cons <| eFldX <| vPF 0 ⟨_, _, _, d, rfl, X.xfc hx, X.fld x hx "name" (by decide), by rw [e]; rfl, hd, av_nil ⟨rfl, _, _, rfl, rfl, f6, ?_, by have := n6; simp only [List.length_cons, List.length_nil]; omega, rfl, rfl, ?_⟩⟩ (hf := hf))
    · unfold D.flats D.flats D.flats; rw [hd]; rfl
    · show (_ : List Slot) = _
      unfold A7 kP
      rw [if_pos e]
      rfl
  · have e := of_decide_eq_false e
    show (_ : List Slot) = _
    unfold A7 kP
    rw [if_neg e, List.append_nil]
  rintro s rfl
  refine sv_cons (sSet 2 nd <| dLst <| av_cons <| eIsX (He.ga K "NoRow") T.isi (X.glo "NoRow" (by decide)) <| vPF 0 (.inr ⟨_, _, _, decide (x = "NoRow"), rfl, X.exc x hx, X.kit x hx "NoRow" (by decide), av_cons <| eIsX (He.ga K "NoChoice") T.isi (X.glo "NoChoice" (by decide)) <| vPF 0 (.inr ⟨_, _, _, decide (x = "NoChoice"), rfl, X.exc x hx, X.kit x hx "NoChoice" (by decide), av_cons <| eIsX (He.ga K "NoSaying") T.isi (X.glo "NoSaying" (by decide)) <| vPF 0 (.inr ⟨_, _, _, decide (x = "NoSaying"), rfl, X.exc x hx, X.kit x hx "NoSaying" (by decide), av_nil ⟨rfl, rfl, rfl, ?_⟩⟩) (hf := hf)⟩) (hf := hf)⟩) (hf := hf))
  refine sv_norm (ss' := [.par (.exc (He.ga K x) (nsOf x) l), .own (.lst (A7 x l)), .own (.lst [.bl (decide (x = "NoRow")), .bl (decide (x = "NoChoice")), .bl (decide (x = "NoSaying"))]), .no, .no, .no]) (by rfl) ?_
  refine sv_cons (sSet 2 nd <| eCat <| nm 2 <| dLst <| av_cons <| eIsX (He.ga K "NoCover") T.isi (X.glo "NoCover" (by decide)) <| vPF 0 (.inr ⟨_, _, _, decide (x = "NoCover"), rfl, X.exc x hx, X.kit x hx "NoCover" (by decide), av_cons <| eIsX (He.ga K "NoText") T.isi (X.glo "NoText" (by decide)) <| vPF 0 (.inr ⟨_, _, _, decide (x = "NoText"), rfl, X.exc x hx, X.kit x hx "NoText" (by decide), av_cons <| eIsX (He.ga K "NoLine") T.isi (X.glo "NoLine" (by decide)) <| vPF 0 (.inr ⟨_, _, _, decide (x = "NoLine"), rfl, X.exc x hx, X.kit x hx "NoLine" (by decide), av_nil ⟨rfl, _, _, rfl, rfl, rfl, rfl, (show (3 : Nat) + 3 ≤ 100000 by decide), rfl, rfl, ?_⟩⟩) (hf := hf)⟩) (hf := hf)⟩) (hf := hf))
  refine sv_norm (ss' := [.par (.exc (He.ga K x) (nsOf x) l), .own (.lst (A7 x l)), .own (.lst ((LP.map fun y => decide (x = y)).map D.bl)), .no, .no, .no]) (by rfl) ?_
  refine sv_cons (sSet 3 nd <| dLst <| av_cons <| ev_str <| av_cons <| ev_str <| av_cons <| ev_str <| av_cons <| ev_str <| av_cons <| ev_str <| av_cons <| ev_str <| av_nil ⟨rfl, rfl, rfl, ?_⟩)
  refine sv_norm (ss' := [.par (.exc (He.ga K x) (nsOf x) l), .own (.lst (A7 x l)), .own (.lst ((LP.map fun y => decide (x = y)).map D.bl)), .own (.lst ((["no row", "choice", "saying", "cover", "text", "line"] : List Str).map D.str)), .no, .no]) (by rfl) ?_
  have hz : ∀ (ws : List Str) (bs : List Bool), (((ws.map D.str).zip (bs.map D.bl)).map fun p => El.two (.own p.1) (.own p.2)) = (ws.zip bs).map fun p => El.two (.own (.str p.1)) (.own (.bl p.2)) := fun ws bs => by
    rw [List.zip_map, List.map_map]
    rfl
  refine sv_cons (sSet 1 nd <| eCat <| nm 1 <| eLc [("_law_word", 4), ("_law_truth", 5)] nd (blkOk_by (N := n__law_kind) (sc := defScope s__law_kind) (by decide +kernel)) <| wZip T.zip <| nm 3 <| nm 2 ⟨_, _, rfl, rfl, flat_map fun _ => rfl, flat_map fun _ => rfl, fun i s acc => s = [.par (.exc (He.ga K x) (nsOf x) l), .own (.lst (A7 x l)), .own (.lst ((LP.map fun y => decide (x = y)).map D.bl)), .own (.lst ((["no row", "choice", "saying", "cover", "text", "line"] : List Str).map D.str)), .no, .no] ∧ acc = ((((["no row", "choice", "saying", "cover", "text", "line"] : List Str).zip (LP.map fun y => decide (x = y))).take i).filter (·.2)).map fun p => D.str p.1, ⟨rfl, rfl⟩, ?_, ?_⟩)
  · rintro i el s acc hel ⟨rfl, rfl⟩ s0 H0 C0 cl fp
    rw [hz] at hel
    obtain ⟨⟨w0, b0⟩, hp, rfl⟩ := els_get hel
    refine gTwo 4 5 nd fun s0 H0 C0 cl fp => tsv_one (tVal <| nm 5 ⟨fun e s0 H0 C0 cl fp => nm 4 ⟨_, rfl, ?_, rfl, ?_⟩, fun e => ⟨rfl, ?_⟩⟩)
    · rw [List.length_map]
      have h1 := List.length_filter_le (fun p : Str × Bool => p.2) (((["no row", "choice", "saying", "cover", "text", "line"] : List Str).zip (LP.map fun y => decide (x = y))).take i)
      rw [List.length_take] at h1
      have h2 := getElem?_lt hp
      have h3 : ((["no row", "choice", "saying", "cover", "text", "line"] : List Str).zip (LP.map fun y => decide (x = y))).length = 6 := rfl
      omega
    · rw [take_next hp, List.filter_append, List.map_append, List.filter_cons, if_pos e]
      rfl
    · rw [take_next hp, List.filter_append, List.map_append, List.filter_cons, if_neg (by rw [e]; decide)]
      simp
  · rintro s acc ⟨rfl, hacc⟩
    have hacc2 : acc = kTail x := by
      rw [hacc, hz, List.length_map, List.take_length]
      rfl
    subst hacc2
    clear hacc
    have l6 : (kTail x).length ≤ 6 := by
      unfold kTail
      rw [List.length_map]
      exact Nat.le_trans (List.length_filter_le _ _) (Nat.le_refl 6)
    refine ⟨_, _, rfl, rfl, f7, D.flats_of fun d hd => ?_, by have := n7; omega, rfl, rfl, ?_⟩
    · obtain ⟨p, _, rfl⟩ := List.mem_map.mp hd
      rfl
    clear l6
    refine sv_norm (ss' := [.par (.exc (He.ga K x) (nsOf x) l), .own (.lst (kindOf x l)), .own (.lst ((LP.map fun y => decide (x = y)).map D.bl)), .own (.lst ((["no row", "choice", "saying", "cover", "text", "line"] : List Str).map D.str)), .no, .no]) (by rfl) ?_
    refine sv_cons (s1_if <| tv_w <| wv_and <| tNotN <| vPF (d := .exc (He.ga K x) (nsOf x) l) 0 ⟨fun _ => wv_and1 <| tv_w <| wv_or <| tv_not <| tVal <| eIsX (He.ga K "SlackError") T.isi (X.glo "SlackError" (by decide)) <| vPF 0 (.inr ⟨_, _, _, true, rfl, X.exc x hx, X.kitS x hx, fun z => (nomatch z), fun _ => wv_or1 <| tv_not <| tVal <| eIsXT "ValueError" T.isi T.verr <| vPF 0 (.inr ⟨_, _, _, true, rfl, X.exc x hx, X.kitV x hx, fun z => (nomatch z), fun _ => sv_nil ?_⟩) (hf := hf)⟩) (hf := hf), fun z => (nomatch z)⟩ (hf := hf))
    exact sv_one (s1_ret <| vM 1 ⟨_, rfl, hk⟩)
end
end K15
namespace K15
open PySem PySem.Spec PyProof.Rows L2 DL K03
section
variable {P : Program} {w : World} {K : PySem.W.Frag} {mg : Str → Option Value} {base : Heap}
theorem nmF {X : Cx} {ss ts : List Slot} {Φ : List Slot → Slot → Prop} {x : Str} {pos : Pos} (i : Nat) {d : D} (hs : ss[i]? = some (.own d)) (hf : d.flat = true) (q : Φ ss (.own d)) (hN : X.N[i]? = some x := by rfl) (hv : Vis X.env.scope x := by first | exact Or.inl rfl | exact Or.inr (Or.inl rfl) | exact Or.inr (Or.inr rfl)) (hd : (x == ("__debug__" : Str)) = false := by decide) (hcd : (x == ("__classdict__" : Str)) = false := by decide) :
    EV X (.Name x pos) ss ts Φ := vF i q hs hf hN hv hd hcd
def FLaw : List D → (D → Prop) → Prop := fun ds k => ∃ ns : List Int, ns.length ≤ 63 ∧ ds = [.fz (ns.map D.int)] ∧ k (.bl true)
theorem dneg {d : D} {q : Prop} : (!deq d d) = true → q := fun z => by rw [deq_self] at z; cases z
/-- a refusal as data -/
def exD (K : PySem.W.Frag) (q : Str × List D) : D := .exc (He.ga K q.1) (nsOf q.1) q.2
/-- what is due for it -/
def duD (q : Str × List D) : D := .fz (kindOf q.1 q.2)
def Good (q : Str × List D) : Prop := (q.1 ∈ LS ∧ q.2.length = (nsOf q.1).length ∧ D.flats q.2 = true) ∧ (D.lst (D.ths (kindOf q.1 q.2))).pl 15 = true ∧ D.flats (kindOf q.1 q.2) = true
def rowF (n o : Int) : D := .fz [.tup [.int n, .int 1], .tup [.int o, .int 1]]
theorem frz_row (n o : Int) : (D.lst [.tup [.int n, .int 1], .tup [.int o, .int 1]]).frz = rowF n o := by
  unfold rowF
  simp only [D.frz, D.frzs]
theorem row_pure (n o : Int) : (rowF n o).pure = true := by
  unfold rowF
  simp only [D.pure, D.pures, Bool.and_self]
theorem row_frz (n o : Int) : (rowF n o).frz = rowF n o := by
  unfold rowF
  simp only [D.frz, D.frzs]
theorem row_flat (n o : Int) : (rowF n o).flat = true := by
  unfold rowF
  simp only [D.flat, D.flats, Bool.and_self]
def newQ (n : Int) (o : Nat) (t : Str) : List (Str × List D) := [("NoNumber", [.int n]), ("NoTable", [.int (o : Int)]), ("Flat", [.str t]), ("Lifted", [.int n, .int (o : Int)]), ("Dipped", [rowF n o]), ("NotOne", [.str t]), ("NoName", [.str (repS "a" (1 + o))]), ("Lifted", [.int n, .int (o : Int)]),
  ("NoNumber", [.int n]), ("NoTable", [.int (-1)]), ("Flat", [.str t]), ("Dipped", [rowF n o]), ("NotOne", [.str t])]
theorem rep_ok (n : Nat) : PyData.strOk (repS "a" n) = true := strOk_iff.mpr fun c hc => by
  rw [repS_cps] at hc
  obtain ⟨l, hl, hc⟩ := List.mem_flatten.mp hc
  rw [List.eq_of_mem_replicate hl, show ("a" : Str).cps.toList = [97] by decide +kernel] at hc
  rw [List.mem_singleton.mp hc]
  decide
theorem good1 {x w : Str} {d : D} (hk : kindOf x [d] = [.str w, d]) (hm : x ∈ LS) (hn : (nsOf x).length = 1) (hf : d.flat = true) (hw : PyData.strOk w = true) (hp : d.th.pl 14 = true) : Good (x, [d]) := by
  have h1 : D.flats [d] = true := by rw [D.flats_cons, hf]; unfold D.flats; rfl
  refine ⟨⟨hm, hn.symm, h1⟩, ?_, ?_⟩
  · show (D.lst (D.ths (kindOf x [d]))).pl 15 = true
    rw [hk]
    refine pl_lst (n := 14) ?_
    unfold D.ths D.ths D.ths D.pls D.pls D.pls
    rw [hp, show D.th (.str w) = .str w by unfold D.th; rfl, pl_str hw]
    rfl
  · show D.flats (kindOf x [d]) = true
    rw [hk, D.flats_cons, h1]
    rfl
theorem good2 {x w : Str} {a b : Int} (hk : kindOf x [.int a, .int b] = [.str w, .int b, .int a]) (hm : x ∈ LS) (hn : (nsOf x).length = 2) (hw : PyData.strOk w = true) : Good (x, [.int a, .int b]) := by
  refine ⟨⟨hm, hn.symm, rfl⟩, ?_, ?_⟩
  · show (D.lst (D.ths (kindOf x [.int a, .int b]))).pl 15 = true
    rw [hk]
    refine pl_lst (n := 14) ?_
    unfold D.ths D.ths D.ths D.ths D.pls D.pls D.pls D.pls
    rw [show D.th (.str w) = .str w by unfold D.th; rfl, pl_str hw]
    rfl
  · show D.flats (kindOf x [.int a, .int b]) = true
    rw [hk]
    rfl
theorem row_pl (n o : Int) : ((rowF n o).th).pl 14 = true := by
  unfold rowF
  simp only [D.th, D.ths]
  rfl
theorem kLifted (a b : Int) : kindOf "Lifted" [.int a, .int b] = [.str "lifted", .int b, .int a] := by rfl
theorem newQ_good {n : Int} {o : Nat} {t : Str} (ht : PyData.strOk t = true) : ∀ q, q ∈ newQ n o t → Good q := fun q hq => by
  have pi : ∀ i : Int, (D.th (.int i)).pl 14 = true := fun i => by unfold D.th; rfl
  have ps : ∀ s : Str, PyData.strOk s = true → (D.th (.str s)).pl 14 = true := fun s h => by unfold D.th; exact pl_str h
  unfold newQ at hq
  simp only [List.mem_cons, List.not_mem_nil, or_false] at hq
  rcases hq with rfl | rfl | rfl | rfl | rfl | rfl | rfl | rfl | rfl | rfl | rfl | rfl | rfl
  · exact good1 (w := "number") (by rfl) (by decide) (by decide) rfl (by decide +kernel) (pi _)
  · exact good1 (w := "table") (by rfl) (by decide) (by decide) rfl (by decide +kernel) (pi _)
  · exact good1 (w := "flat") (by rfl) (by decide) (by decide) rfl (by decide +kernel) (ps _ ht)
  · exact good2 (kLifted _ _) (by decide) (by decide) (by decide +kernel)
  · exact good1 (w := "dipped") (by rfl) (by decide) (by decide) (row_flat n o) (by decide +kernel) (row_pl n o)
  · exact good1 (w := "not one") (by rfl) (by decide) (by decide) rfl (by decide +kernel) (ps _ ht)
  · exact good1 (w := "name") (by rfl) (by decide) (by decide) rfl (by decide +kernel) (ps _ (rep_ok _))
  · exact good2 (kLifted _ _) (by decide) (by decide) (by decide +kernel)
  · exact good1 (w := "number") (by rfl) (by decide) (by decide) rfl (by decide +kernel) (pi _)
  · exact good1 (w := "table") (by rfl) (by decide) (by decide) rfl (by decide +kernel) (pi _)
  · exact good1 (w := "flat") (by rfl) (by decide) (by decide) rfl (by decide +kernel) (ps _ ht)
  · exact good1 (w := "dipped") (by rfl) (by decide) (by decide) (row_flat n o) (by decide +kernel) (row_pl n o)
  · exact good1 (w := "not one") (by rfl) (by decide) (by decide) rfl (by decide +kernel) (ps _ ht)
def F__law_plain : List D → (D → Prop) → Prop := fun ds k => ds = [] ∧ k (.bl true)
def W6 : List Str := ["no row", "choice", "saying", "cover", "text", "line"]
set_option maxHeartbeats 0 in
theorem ok__law_plain {f : Addr} {fd : FuncData} (Fn : FunD K "_law_plain" "_law_plain" (defArgs s__law_plain) (defBody s__law_plain) (defScope s__law_plain) [] [] f fd) (XX : XF K mg) {f1 : Addr} {fd1 : FuncData} (Ki : DefAt P w K mg base CX0 1 "_law_kind" p__law_kind f1 fd1 [] (F__law_kind K)) : FnOk P w K mg base CX0 2 f fd p__law_plain (spP K F__law_plain) := by
  refine fun_okP Fn sc__law_plain (fun ds q ⟨e, _⟩ => by rw [e]; rfl) fun cdv A outer s H E hr ds k hF => ?_
  obtain ⟨rfl, hk⟩ := hF
  have nd := sc__law_plain.nd
  have hu := hr.units
  refine sv_cons (sSet 0 nd <| dLst <| av_cons <| eMade <| mk_none (XX.pl "NoRow" (by decide)) <| av_cons <| eMade <| mk_none (XX.pl "NoChoice" (by decide)) <| av_cons <| eMade <| mk_none (XX.pl "NoSaying" (by decide)) <| av_cons <| eMade <| mk_none (XX.pl "NoCover" (by decide)) <| av_cons <| eMade <| mk_none (XX.pl "NoText" (by decide)) <| av_cons <| eMade <| mk_none (XX.pl "NoLine" (by decide)) <| av_nil ⟨rfl, rfl, rfl, ?_⟩)
  refine sv_norm (ss' := [.own (.lst (LP.map fun x => D.exc (He.ga K x) [] [])), .no, .no, .no, .no]) (by rfl) ?_
  refine sv_cons (sSet 1 nd <| dLst <| av_cons <| eMade <| mk_text (XX.pl "NoRow" (by decide)) <| av_cons <| eMade <| mk_text (XX.pl "NoChoice" (by decide)) <| av_cons <| eMade <| mk_text (XX.pl "NoSaying" (by decide)) <| av_cons <| eMade <| mk_text (XX.pl "NoCover" (by decide)) <| av_cons <| eMade <| mk_text (XX.pl "NoText" (by decide)) <| av_cons <| eMade <| mk_text (XX.pl "NoLine" (by decide)) <| av_nil ⟨rfl, rfl, rfl, ?_⟩)
  refine sv_norm (ss' := [.own (.lst (LP.map fun x => D.exc (He.ga K x) [] [])), .own (.lst (LP.map fun x => D.exc (He.ga K x) [] [])), .no, .no, .no]) (by rfl) ?_
  refine sv_cons (sSet 2 nd <| eLit 4 (.lst (W6.map D.str)) ⟨rfl, rfl, ?_⟩)
  refine sv_norm (ss' := [.own (.lst (LP.map fun x => D.exc (He.ga K x) [] [])), .own (.lst (LP.map fun x => D.exc (He.ga K x) [] [])), .own (.lst (W6.map D.str)), .no, .no]) (by rfl) ?_
  have fl : D.flats (LP.map fun x => D.exc (He.ga K x) [] []) = true := rfl
  have inLS : ∀ x, x ∈ LP → x ∈ LS := by decide
  have ns0 : ∀ x, x ∈ LP → nsOf x = [] := by decide
  refine sv_one (s1_ret <| eEqP hu <| eLc [("_law_one", 3)] nd (blkOk_by (N := n__law_plain) (sc := defScope s__law_plain) (by decide +kernel)) <| wLst <| eCat <| nm 0 <| nm 1 ⟨_, _, rfl, rfl, fl, fl, (by rw [List.length_map]; decide), _, rfl, ?_, fun i s acc => s = [.own (.lst (LP.map fun x => D.exc (He.ga K x) [] [])), .own (.lst (LP.map fun x => D.exc (He.ga K x) [] [])), .own (.lst (W6.map D.str)), .no, .no] ∧ acc = ((LP ++ LP).take i).map fun x => D.lst (kindOf x []), ⟨rfl, rfl⟩, ?_, ?_⟩)
  · intro d hd
    rw [← List.map_append] at hd
    obtain ⟨x, _, rfl⟩ := List.mem_map.mp hd
    rfl
  · rintro i el s acc hel ⟨rfl, rfl⟩ s0 H0 C0 cl fp
    obtain ⟨d, hd, rfl⟩ := els_get hel
    rw [← List.map_append, List.getElem?_map] at hd
    obtain ⟨x, hx, rfl⟩ := Option.map_eq_some_iff.mp hd
    have hl := getElem?_lt hx
    have hl : i < 12 := hl
    have hm : x ∈ LP := by
      rcases List.mem_append.mp (List.mem_of_getElem? hx) with h | h <;> exact h
    exact gOne 3 nd fun s0 H0 C0 cl fp => tsv_nil ⟨fun _ s0 H0 C0 cl fp => cCall Ki hr (by decide) <| av_cons <| nm 3 <| av_nil ⟨x, [], by rw [ns0 x hm]; rfl, ⟨inLS x hm, by rw [ns0 x hm]; rfl, rfl⟩, _, rfl, by rw [List.length_map, List.length_take]; omega, rfl, by rw [take_next hx, List.map_append]; rfl⟩, fun z => (nomatch z)⟩
  rintro s acc ⟨rfl, rfl⟩
  refine eLc [("_law_word", 4)] nd (blkOk_by (N := n__law_plain) (sc := defScope s__law_plain) (by decide +kernel)) <| wLst <| eCat <| nm 2 <| nm 2 ⟨_, _, rfl, rfl, rfl, rfl, by decide, _, rfl, ?_, fun i s acc => s = [.own (.lst (LP.map fun x => D.exc (He.ga K x) [] [])), .own (.lst (LP.map fun x => D.exc (He.ga K x) [] [])), .own (.lst (W6.map D.str)), .no, .no] ∧ acc = ((W6 ++ W6).take i).map fun x => D.lst [.str x], ⟨rfl, rfl⟩, ?_, ?_⟩
  · intro d hd
    rw [← List.map_append] at hd
    obtain ⟨x, _, rfl⟩ := List.mem_map.mp hd
    rfl
  · rintro i el s acc hel ⟨rfl, rfl⟩ s0 H0 C0 cl fp
    obtain ⟨d, hd, rfl⟩ := els_get hel
    rw [← List.map_append, List.getElem?_map] at hd
    obtain ⟨x, hx, rfl⟩ := Option.map_eq_some_iff.mp hd
    have hl := getElem?_lt hx
    have hl : i < 12 := hl
    exact gOne 4 nd fun s0 H0 C0 cl fp => tsv_nil ⟨fun _ s0 H0 C0 cl fp => dLst <| av_cons <| nm 4 <| av_nil ⟨rfl, _, rfl, by rw [List.length_map, List.length_take]; omega, rfl, by rw [take_next hx, List.map_append]; rfl⟩, fun z => (nomatch z)⟩
  rintro s acc ⟨rfl, rfl⟩
  have e : ((LP ++ LP).map fun x => D.lst (kindOf x [])) = (W6 ++ W6).map fun x => D.lst [.str x] := by rfl
  have pw : (D.lst ((W6 ++ W6).map fun x => D.lst [.str x])).pl 16 = true := pl_lst (n := 15) (pls_map fun x hx => by
    have : ∀ x, x ∈ W6 ++ W6 → PyData.strOk x = true := by decide +kernel
    refine pl_lst (n := 14) ?_
    unfold D.pls D.pls
    rw [pl_str (this x hx)]
    rfl)
  rw [← List.map_append, ← List.map_append, List.length_map, List.length_map, List.length_map, List.length_map, List.take_length, List.take_length, e]
  refine ⟨pw, pw, _, rfl, ?_⟩
  rw [deq_self]
  exact hk
end
end K15
namespace K15
open PySem PySem.Spec PyProof.Rows L2 DL K03
section
variable {P : Program} {w : World} {K : PySem.W.Frag} {mg : Str → Option Value} {base : Heap}
theorem made_eq {K : PySem.W.Frag} {MD : List (Str × List D)} {n : Int} {o : Nat} {t : Str} : (((MD.map (exD K) ++ [exD K ("NoNumber", [.int n]), exD K ("NoTable", [.int (o : Int)]), exD K ("Flat", [.str t]), exD K ("Lifted", [.int n, .int (o : Int)]), exD K ("Dipped", [rowF n o])]) ++ [exD K ("NotOne", [.str t]), exD K ("NoName", [.str (repS "a" (1 + o))]), exD K ("Lifted", [.int n, .int (o : Int)])]) ++
    [exD K ("NoNumber", [.int n]), exD K ("NoTable", [.int (-1)]), exD K ("Flat", [.str t]), exD K ("Dipped", [rowF n o])]) ++ [exD K ("NotOne", [.str t])] = (MD ++ newQ n o t).map (exD K) := by
  rw [List.map_append, List.append_assoc, List.append_assoc, List.append_assoc]
  rfl
theorem due_eq {MD : List (Str × List D)} {n : Int} {o : Nat} {t : Str} : (((MD.map duD ++ [.fz [.str "number", .int n], .fz [.str "table", .int (o : Int)], .fz [.str "flat", .str t], .fz [.str "lifted", .int (o : Int), .int n]]) ++ [.fz [.str "dipped", rowF n o]]) ++ [.fz [.str "not one", .str t], .fz [.str "name", .str (repS "a" (1 + o))], .fz [.str "lifted", .int (o : Int), .int n]]) ++
    [.fz [.str "number", .int n], .fz [.str "table", .int (-1)], .fz [.str "flat", .str t], .fz [.str "dipped", rowF n o], .fz [.str "not one", .str t]] = (MD ++ newQ n o t).map duD := by
  rw [List.map_append, List.append_assoc, List.append_assoc, List.append_assoc]
  rfl
theorem flats_good {MD : List (Str × List D)} (h : ∀ q, q ∈ MD → Good q) (K : PySem.W.Frag) : D.flats (MD.map (exD K)) = true ∧ D.flats (MD.map duD) = true := by
  refine ⟨D.flats_of fun d hd => ?_, D.flats_of fun d hd => ?_⟩
  · obtain ⟨q, hq, rfl⟩ := List.mem_map.mp hd
    unfold exD D.flat
    exact (h q hq).1.2.2
  · obtain ⟨q, hq, rfl⟩ := List.mem_map.mp hd
    unfold duD D.flat
    exact (h q hq).2.2
theorem ths_good {MD : List (Str × List D)} : (D.lst (MD.map fun q => D.lst (kindOf q.1 q.2))).th = (D.lst (MD.map duD)).th := by
  unfold D.th
  rw [D.ths_map, D.ths_map, List.map_map, List.map_map]
  congr 1
theorem pl_good {MD : List (Str × List D)} (h : ∀ q, q ∈ MD → Good q) : ((D.lst (MD.map duD)).th).pl 16 = true := by
  unfold D.th
  rw [D.ths_map, List.map_map]
  refine pl_lst (n := 15) (pls_map fun q hq => ?_)
  show ((D.fz (kindOf q.1 q.2)).th).pl 15 = true
  unfold D.th
  exact (h q hq).2.1
theorem fl_cons {d : D} {l : List D} (h : d.flat = true) (g : D.flats l = true) : D.flats (d :: l) = true := by
  rw [D.flats_cons, h, g]
  rfl
theorem fl_nil : D.flats [] = true := by unfold D.flats; rfl
theorem fx1 {K : PySem.W.Frag} {x : Str} {d : D} (h : d.flat = true) : (exD K (x, [d])).flat = true := by
  unfold exD D.flat
  exact fl_cons h fl_nil
theorem fx2 {K : PySem.W.Frag} {x : Str} {a b : D} (h : a.flat = true) (h2 : b.flat = true) : (exD K (x, [a, b])).flat = true := by
  unfold exD D.flat
  exact fl_cons h (fl_cons h2 fl_nil)
theorem fx2i {K : PySem.W.Frag} {x : Str} {a b : Int} : (exD K (x, [.int a, .int b])).flat = true := fx2 (a := .int a) (b := .int b) rfl rfl
theorem fx1i {K : PySem.W.Frag} {x : Str} {a : Int} : (exD K (x, [.int a])).flat = true := fx1 (d := .int a) rfl
theorem fx1s {K : PySem.W.Frag} {x a : Str} : (exD K (x, [.str a])).flat = true := fx1 (d := .str a) rfl
theorem ft1 {w : Str} {d : D} (h : d.flat = true) : (D.fz [.str w, d]).flat = true := by
  unfold D.flat
  exact fl_cons rfl (fl_cons h fl_nil)
theorem ft2 {w : Str} {a b : D} (h : a.flat = true) (h2 : b.flat = true) : (D.fz [.str w, a, b]).flat = true := by
  unfold D.flat
  exact fl_cons rfl (fl_cons h (fl_cons h2 fl_nil))
theorem pure_i {i : Int} : (D.int i).pure = true := by unfold D.pure; rfl
theorem frz_i {i : Int} : (D.int i).frz = .int i := by unfold D.frz; rfl
theorem ft1i {w : Str} {i : Int} : (D.fz [.str w, .int i]).flat = true := ft1 (d := .int i) rfl
theorem ft1s {w t : Str} : (D.fz [.str w, .str t]).flat = true := ft1 (d := .str t) rfl
theorem ft2i {w : Str} {a b : Int} : (D.fz [.str w, .int a, .int b]).flat = true := ft2 (a := .int a) (b := .int b) rfl rfl
set_option maxHeartbeats 0 in
theorem ok_law {f : Addr} {fd : FuncData} (Fn : FunD K "law" "law" (defArgs s_law) (defBody s_law) (defScope s_law) [] [] f fd) (T : Txt mg) (XX : XF K mg) (XS : XFS K mg) {f1 f2 f3 f4 : Addr} {fd1 fd2 fd3 fd4 : FuncData}
    (Pl : DefAt P w K mg base CX0 1 "_law_pile" p__law_pile f1 fd1 [] F__law_pile) (Tk : DefI P w K mg base CX0 2 "_law_take" p__law_take f2 fd2 [] F__law_take) (Ki : DefAt P w K mg base CX0 1 "_law_kind" p__law_kind f3 fd3 [] (F__law_kind K)) (PL : DefAt P w K mg base CX0 2 "_law_plain" p__law_plain f4 fd4 [] F__law_plain)
    (N1 : ExI P w K mg base "NoNumber" (He.ga K "NoNumber") ["self", "top"] (spF1 K "top")) (N2 : ExI P w K mg base "NoTable" (He.ga K "NoTable") ["self", "place"] (spF1 K "place")) (N3 : ExI P w K mg base "Flat" (He.ga K "Flat") ["self", "choice"] (spF1 K "choice"))
    (N4 : ExI P w K mg base "Lifted" (He.ga K "Lifted") ["self", "row", "column"] (spF2 K "row" "column")) (N5 : ExI P w K mg base "Dipped" (He.ga K "Dipped") ["self", "row"] (spF1 K "row")) (N6 : ExI P w K mg base "NotOne" (He.ga K "NotOne") ["self", "choice"] (spF1 K "choice")) (N7 : ExI P w K mg base "NoName" (He.ga K "NoName") ["self", "name"] (spF1 K "name"))
    (K1 : ExIK P w K mg base "NoNumber" (He.ga K "NoNumber") ["self", "top"] (spF1 K "top") ["top"] [0, 1]) (K2 : ExIK P w K mg base "NoTable" (He.ga K "NoTable") ["self", "place"] (spF1 K "place") ["place"] [0, 1]) (K3 : ExIK P w K mg base "Flat" (He.ga K "Flat") ["self", "choice"] (spF1 K "choice") ["choice"] [0, 1])
    (K4 : ExIK P w K mg base "Lifted" (He.ga K "Lifted") ["self", "row", "column"] (spF2 K "row" "column") ["column", "row"] [0, 2, 1]) (K5 : ExIK P w K mg base "Dipped" (He.ga K "Dipped") ["self", "row"] (spF1 K "row") ["row"] [0, 1]) (K6 : ExIK P w K mg base "NotOne" (He.ga K "NotOne") ["self", "choice"] (spF1 K "choice") ["choice"] [0, 1])
    (K7 : ExIK P w K mg base "NoName" (He.ga K "NoName") ["self", "name"] (spF1 K "name") ["name"] [0, 1]) : FnOk P w K mg base CX0 3 f fd p_law (spP K FLaw) := by
  refine fun_okP Fn sc_law (fun ds q ⟨n, _, e, _⟩ => by rw [e]; rfl) fun cdv A outer s H E hr ds k hF => ?_
  obtain ⟨ns, hl, rfl, hk⟩ := hF
  have nd := sc_law.nd
  have hu := hr.units
  have big : (2 ^ 60 : Nat) = 1152921504606846976 := by decide +kernel
  have big2 : (2 ^ 50 : Nat) = 1125899906842624 := by decide +kernel
  have big3 : (2 ^ 40 : Nat) = 1099511627776 := by decide +kernel
  have e6 : (10 : Int) ^ (6 : Int).toNat = 1000000 := by decide +kernel
  have hr2 : Room 2 _ := hr.mono (by decide)
  refine sv_cons (sSet 1 nd <| cCall Pl hr (by decide) <| av_cons <| nm 0 <| av_cons <| ev_int <| av_nil ⟨ns, 0, rfl, by omega, fun d hp => ⟨rfl, rfl, ?_⟩⟩)
  refine sv_cons (sSet 2 nd <| dLst <| av_nil ⟨rfl, rfl, rfl, sv_cons <| sSet 3 nd <| dLst <| av_nil ⟨rfl, rfl, rfl, ?_⟩⟩)
  refine sv_cons (sFor [4] <| wRange T.range <| ev_int ⟨by decide, fun i s => ∃ (d : D) (MD : List (Str × List D)), Pile (10000 + 20 * i) d ∧ s = [.par (.fz (ns.map D.int)), .own d, .own (.lst (MD.map (exD K))), .own (.lst (MD.map duD)), .no, .no, .no, .no, .no, .no, .no] ∧ MD.length = 13 * i ∧ ∀ q, q ∈ MD → Good q, ⟨d, [], hp, rfl, rfl, fun d hd => nomatch hd⟩, ?_, ?_⟩)
  · rintro i el s hel ⟨d, MD, hp, rfl, hM, hG⟩
    obtain ⟨hi, rfl⟩ := els_range hel
    have hi : i < 6 := hi
    obtain ⟨fl1, fl2⟩ := flats_good hG K
    refine gOne 4 nd ?_
    refine sv_cons (sSet 5 nd <| eSub <| cCallI Tk 1 hr (by decide) <| av_cons <| ePow <| ev_int <| ev_int ⟨⟨by decide, by decide, by decide⟩, av_nil ⟨d, rfl, rfl, 10000 + 20 * i, 1000000, (by rw [e6]; rfl), ⟨hp, by decide, by decide, by omega⟩, fun d r hp h0 h1 => ev_int ⟨rfl, rfl, ?_⟩⟩⟩)
    obtain ⟨n, hn⟩ : ∃ n, r - 10 = n := ⟨_, rfl⟩
    rw [hn]
    refine sv_cons (sSet 6 nd <| cCallI Tk 1 hr (by decide) <| av_cons <| ev_int <| av_nil ⟨d, rfl, rfl, _, 5, rfl, ⟨hp, by decide, by decide, by omega⟩, fun d r hp h0 h1 => ⟨rfl, rfl, ?_⟩⟩)
    obtain ⟨o, rfl⟩ : ∃ o : Nat, r = (o : Int) := ⟨r.toNat, by omega⟩
    have ho : o < 5 := by omega
    refine sv_norm (ss' := [.par (.fz (ns.map D.int)), .own d, .own (.lst (MD.map (exD K))), .own (.lst (MD.map duD)), .own (.int (i : Int)), .own (.int n), .own (.int (o : Int)), .no, .no, .no, .no]) (by rfl) ?_
    refine sv_cons (sSet 7 nd <| eJoin <| ev_str <| eLc [("_law_k", 9)] nd (blkOk_by (N := n_law) (sc := defScope s_law) (by decide +kernel)) <| wRange T.range <| eAdd <| ev_int <| cCallI Tk 1 hr (by decide) <| av_cons <| ev_int <| av_nil ⟨d, rfl, rfl, _, 5, rfl, ⟨hp, by decide, by decide, by omega⟩, fun d r hp h0 h1 => ⟨by omega, fun j s acc => ∃ (d : D) (ys : List Str), Pile (10000 + 20 * i + 3 + j) d ∧ s = [.par (.fz (ns.map D.int)), .own d, .own (.lst (MD.map (exD K))), .own (.lst (MD.map duD)), .own (.int (i : Int)), .own (.int n), .own (.int (o : Int)), .no, .no, .no, .no] ∧ acc = ys.map D.str ∧ ys.length = j ∧ ∀ y, y ∈ ys → y = "0" ∨ y = "1", ⟨d, [], hp, rfl, rfl, rfl, (fun _ z => nomatch z)⟩, ?_, ?_⟩⟩)
    · rintro j el s acc hel ⟨d, ys, hpd, rfl, rfl, hl, hy⟩ s0 H0 C0 cl fp
      obtain ⟨hj, rfl⟩ := els_range hel
      refine gOne 9 nd fun s0 H0 C0 cl fp => tsv_nil ⟨fun _ s0 H0 C0 cl fp => eStrI T.str <| cCallI Tk 1 hr (by decide) <| av_cons <| ev_int <| av_nil ⟨d, rfl, rfl, _, 2, rfl, ⟨hpd, by decide, by decide, by omega⟩, fun d' r hp' h0 h1 => ⟨?_, _, rfl, by rw [List.length_map]; omega, d', ys ++ [((toString r : String) : Str)], hp', rfl, by rw [List.map_append]; rfl, by rw [List.length_append, hl]; rfl, fun y hy2 => ?_⟩⟩, fun z => (nomatch z)⟩
      · have : r = 0 ∨ r = 1 := by omega
        rcases this with rfl | rfl <;> decide
      · rcases List.mem_append.mp hy2 with hy2 | hy2
        · exact hy y hy2
        · rw [List.mem_singleton.mp hy2]
          exact bit_text h0 h1
    rintro s acc ⟨d, ys, hp, rfl, rfl, hl, hy⟩
    rw [len_range] at hp hl
    have sb := sum_bits hy
    obtain ⟨j1, j2⟩ := join_bits hy
    refine ⟨ys, rfl, ?_, rfl, rfl, ?_⟩
    · rw [sb, show ("" : Str).length = 0 from rfl]
      omega
    obtain ⟨t, ht⟩ : ∃ t, Txt.join "" ys = t := ⟨_, rfl⟩
    rw [ht] at j1 j2 ⊢
    have tok : PyData.strOk t = true := strOk_iff.mpr fun c hc => by
      rcases isBin_iff.mp j2 c hc with e | e <;> (rw [e]; decide)
    replace hp : Pile (10000 + 20 * (i + 1)) d := hp.up (by omega)
    refine sv_cons (sSet 8 nd <| dLst <| av_cons <| dTup <| av_cons <| nm 5 <| av_cons <| ev_int <| av_nil ⟨rfl, av_cons <| dTup <| av_cons <| nm 6 <| av_cons <| ev_int <| av_nil ⟨rfl, av_nil ⟨rfl, rfl, rfl, ?_⟩⟩⟩)
    refine sv_fz 8 rfl (by simp only [D.pure, D.pures, Bool.and_self]) rfl ?_
    rw [frz_row]
    refine sv_norm (ss' := [.par (.fz (ns.map D.int)), .own d, .own (.lst (MD.map (exD K))), .own (.lst (MD.map duD)), .own (.int (i : Int)), .own (.int n), .own (.int (o : Int)), .own (.str t), .own (rowF n o), .no, .no]) (by rfl) ?_
    have lm : (MD.map (exD K)).length = 13 * i := by rw [List.length_map, hM]
    have ld : (MD.map duD).length = 13 * i := by rw [List.length_map, hM]
    have eo : (1 : Int) + (o : Int) = ((1 + o : Nat) : Int) := by omega
    obtain ⟨nT, hnT⟩ : ∃ s : Str, repS "a" (1 + o) = s := ⟨_, rfl⟩
    generalize LM0 : MD.map (exD K) = LM at lm fl1
    generalize LD0 : MD.map duD = LD at ld fl2
    have rf := row_flat n o
    refine sv_cons (sSet 2 nd <| eCat <| nm 2 <| dLst <| av_cons <| eMade <| mk_one N1 hr2 (XX.fld "NoNumber" (by decide) "top" (by decide)) <| nm 5 ⟨rfl, av_cons <| eMade <| mk_one N2 hr2 (XX.fld "NoTable" (by decide) "place" (by decide)) <| nm 6 ⟨rfl, av_cons <| eMade <| mk_one N3 hr2 (XX.fld "Flat" (by decide) "choice" (by decide)) <| nm 7 ⟨rfl, av_cons <| eMade <| mk_two N4 hr2 (XX.fld "Lifted" (by decide) "row" (by decide)) (XX.fld "Lifted" (by decide) "column" (by decide)) <| nm 6 <| nm 5 ⟨⟨rfl, rfl⟩, av_cons <| eMade <| mk_one N5 hr2 (XX.fld "Dipped" (by decide) "row" (by decide)) <| nmF 8 rfl rf ⟨rf, av_nil ⟨rfl, _, _, rfl, rfl, fl1, ?_, ?_, rfl, rfl, ?_⟩⟩⟩⟩⟩⟩)
    · exact fl_cons (fx1i (x := "NoNumber")) <| fl_cons (fx1i (x := "NoTable")) <| fl_cons (fx1s (x := "Flat")) <| fl_cons (fx2i (x := "Lifted")) <| fl_cons (fx1 (x := "Dipped") rf) fl_nil
    · rw [lm]
      show 13 * i + 5 ≤ 100000
      omega
    obtain ⟨LM1, e1⟩ : ∃ l, LM ++ [exD K ("NoNumber", [.int n]), exD K ("NoTable", [.int (o : Int)]), exD K ("Flat", [.str t]), exD K ("Lifted", [.int n, .int (o : Int)]), exD K ("Dipped", [rowF n o])] = l := ⟨_, rfl⟩
    have lm1 : LM1.length = 13 * i + 5 := by rw [← e1, List.length_append, lm]; rfl
    have fm1 : D.flats LM1 = true := by
      rw [← e1, D.flats_append, fl1, Bool.true_and]
      exact fl_cons (fx1i (x := "NoNumber")) <| fl_cons (fx1i (x := "NoTable")) <| fl_cons (fx1s (x := "Flat")) <| fl_cons (fx2i (x := "Lifted")) <| fl_cons (fx1 (x := "Dipped") rf) fl_nil
    refine sv_norm (ss' := [.par (.fz (ns.map D.int)), .own d, .own (.lst LM1), .own (.lst LD), .own (.int (i : Int)), .own (.int n), .own (.int (o : Int)), .own (.str t), .own (rowF n o), .no, .no]) (by rw [← e1]; rfl) ?_
    refine sv_cons (sSet 2 nd <| eCat <| nm 2 <| dLst <| av_cons <| eMade <| mk_one N6 hr2 (XX.fld "NotOne" (by decide) "choice" (by decide)) <| nm 7 ⟨rfl, av_cons <| eMade <| mk_one N7 hr2 (XX.fld "NoName" (by decide) "name" (by decide)) <| eMulS <| ev_str <| eAdd <| ev_int <| nm 6 ⟨"a", 1 + o, rfl, by rw [eo], by decide, by omega, rfl, av_cons <| eMade <| mk_twoK K4 hr2 (XX.fld "Lifted" (by decide) "row" (by decide)) (XX.fld "Lifted" (by decide) "column" (by decide)) <| kv_cons <| nm 5 <| kv_cons <| nm 6 <| kv_nil ⟨_, _, rfl, ⟨rfl, rfl⟩, av_nil ⟨rfl, _, _, rfl, rfl, fm1, ?_, ?_, rfl, rfl, ?_⟩⟩⟩⟩)
    · exact fl_cons (fx1s (x := "NotOne")) <| fl_cons (fx1s (x := "NoName")) <| fl_cons (fx2i (x := "Lifted")) fl_nil
    · rw [lm1]
      show 13 * i + 5 + 3 ≤ 100000
      omega
    obtain ⟨LM2, e2⟩ : ∃ l, LM1 ++ [exD K ("NotOne", [.str t]), exD K ("NoName", [.str (repS "a" (1 + o))]), exD K ("Lifted", [.int n, .int (o : Int)])] = l := ⟨_, rfl⟩
    have lm2 : LM2.length = 13 * i + 8 := by rw [← e2, List.length_append, lm1]; rfl
    have fm2 : D.flats LM2 = true := by
      rw [← e2, D.flats_append, fm1, Bool.true_and]
      exact fl_cons (fx1s (x := "NotOne")) <| fl_cons (fx1s (x := "NoName")) <| fl_cons (fx2i (x := "Lifted")) fl_nil
    refine sv_norm (ss' := [.par (.fz (ns.map D.int)), .own d, .own (.lst LM2), .own (.lst LD), .own (.int (i : Int)), .own (.int n), .own (.int (o : Int)), .own (.str t), .own (rowF n o), .no, .no]) (by rw [← e2]; rfl) ?_
    refine sv_cons (sSet 3 nd <| eCat <| nm 3 <| dLst <| av_cons <| eTag <| nm 5 ⟨_, _, rfl, pure_i, frz_i, av_cons <| eTag <| nm 6 ⟨_, _, rfl, pure_i, frz_i, av_cons <| eTag <| nm 7 ⟨_, _, rfl, pure_str, frz_str, av_cons <| eTag3 <| nm 6 <| nm 5 ⟨_, _, _, _, rfl, rfl, ⟨pure_i, pure_i⟩, ⟨frz_i, frz_i⟩, av_nil ⟨rfl, _, _, rfl, rfl, fl2, ?_, ?_, rfl, rfl, ?_⟩⟩⟩⟩⟩)
    · exact fl_cons ft1i <| fl_cons ft1i <| fl_cons ft1s <| fl_cons ft2i fl_nil
    · rw [ld]
      show 13 * i + 4 ≤ 100000
      omega
    obtain ⟨LD1, g1⟩ : ∃ l, LD ++ [.fz [.str "number", .int n], .fz [.str "table", .int (o : Int)], .fz [.str "flat", .str t], .fz [.str "lifted", .int (o : Int), .int n]] = l := ⟨_, rfl⟩
    have ld1 : LD1.length = 13 * i + 4 := by rw [← g1, List.length_append, ld]; rfl
    have fd1 : D.flats LD1 = true := by
      rw [← g1, D.flats_append, fl2, Bool.true_and]
      exact fl_cons ft1i <| fl_cons ft1i <| fl_cons ft1s <| fl_cons ft2i fl_nil
    refine sv_norm (ss' := [.par (.fz (ns.map D.int)), .own d, .own (.lst LM2), .own (.lst LD1), .own (.int (i : Int)), .own (.int n), .own (.int (o : Int)), .own (.str t), .own (rowF n o), .no, .no]) (by rw [← g1]; rfl) ?_
    refine sv_cons (s1_expr (eApp 3 <| eTag <| nmF 8 rfl rf ⟨_, _, rfl, row_pure n o, row_frz n o, _, _, rfl, rfl, by omega, ?_⟩))
    obtain ⟨LD2, g2⟩ : ∃ l, LD1 ++ [.fz [.str "dipped", rowF n o]] = l := ⟨_, rfl⟩
    have ld2 : LD2.length = 13 * i + 5 := by rw [← g2, List.length_append, ld1]; rfl
    have fd2 : D.flats LD2 = true := by
      rw [← g2, D.flats_append, fd1, Bool.true_and]
      exact fl_cons (ft1 rf) fl_nil
    refine sv_norm (ss' := [.par (.fz (ns.map D.int)), .own d, .own (.lst LM2), .own (.lst LD2), .own (.int (i : Int)), .own (.int n), .own (.int (o : Int)), .own (.str t), .own (rowF n o), .no, .no]) (by rw [← g2]; rfl) ?_
    refine sv_cons (sSet 3 nd <| eCat <| nm 3 <| dLst <| av_cons <| eTag <| nm 7 ⟨_, _, rfl, pure_str, frz_str, av_cons <| eTag <| eMulS <| ev_str <| eAdd <| ev_int <| nm 6 ⟨"a", 1 + o, rfl, by rw [eo], by decide, by omega, _, _, rfl, pure_str, frz_str, av_cons <| eTag3 <| nm 6 <| nm 5 ⟨_, _, _, _, rfl, rfl, ⟨pure_i, pure_i⟩, ⟨frz_i, frz_i⟩, av_nil ⟨rfl, _, _, rfl, rfl, fd2, ?_, ?_, rfl, rfl, ?_⟩⟩⟩⟩)
    · exact fl_cons ft1s <| fl_cons ft1s <| fl_cons ft2i fl_nil
    · rw [ld2]
      show 13 * i + 5 + 3 ≤ 100000
      omega
    obtain ⟨LD3, g3⟩ : ∃ l, LD2 ++ [.fz [.str "not one", .str t], .fz [.str "name", .str (repS "a" (1 + o))], .fz [.str "lifted", .int (o : Int), .int n]] = l := ⟨_, rfl⟩
    have ld3 : LD3.length = 13 * i + 8 := by rw [← g3, List.length_append, ld2]; rfl
    have fd3 : D.flats LD3 = true := by
      rw [← g3, D.flats_append, fd2, Bool.true_and]
      exact fl_cons ft1s <| fl_cons ft1s <| fl_cons ft2i fl_nil
    refine sv_norm (ss' := [.par (.fz (ns.map D.int)), .own d, .own (.lst LM2), .own (.lst LD3), .own (.int (i : Int)), .own (.int n), .own (.int (o : Int)), .own (.str t), .own (rowF n o), .no, .no]) (by rw [← g3]; rfl) ?_
    refine sv_cons (sSet 2 nd <| eCat <| nm 2 <| dLst <| av_cons <| eMade <| mk_oneK K1 hr2 (XX.fld "NoNumber" (by decide) "top" (by decide)) <| kv_cons <| nm 5 <| kv_nil ⟨_, rfl, rfl, av_cons <| eMade <| mk_oneK K2 hr2 (XX.fld "NoTable" (by decide) "place" (by decide)) <| kv_cons <| eNeg <| ev_int <| kv_nil ⟨_, rfl, rfl, av_cons <| eMade <| mk_oneK K3 hr2 (XX.fld "Flat" (by decide) "choice" (by decide)) <| kv_cons <| nm 7 <| kv_nil ⟨_, rfl, rfl, av_cons <| eMade <| mk_oneK K5 hr2 (XX.fld "Dipped" (by decide) "row" (by decide)) <| kv_cons <| nmF 8 rfl rf <| kv_nil ⟨_, rfl, rf, av_nil ⟨rfl, _, _, rfl, rfl, fm2, ?_, ?_, rfl, rfl, ?_⟩⟩⟩⟩⟩)
    · exact fl_cons (fx1i (x := "NoNumber")) <| fl_cons (fx1i (x := "NoTable")) <| fl_cons (fx1s (x := "Flat")) <| fl_cons (fx1 (x := "Dipped") rf) fl_nil
    · rw [lm2]
      show 13 * i + 8 + 4 ≤ 100000
      omega
    obtain ⟨LM3, e3⟩ : ∃ l, LM2 ++ [exD K ("NoNumber", [.int n]), exD K ("NoTable", [.int (-1)]), exD K ("Flat", [.str t]), exD K ("Dipped", [rowF n o])] = l := ⟨_, rfl⟩
    have lm3 : LM3.length = 13 * i + 12 := by rw [← e3, List.length_append, lm2]; rfl
    refine sv_norm (ss' := [.par (.fz (ns.map D.int)), .own d, .own (.lst LM3), .own (.lst LD3), .own (.int (i : Int)), .own (.int n), .own (.int (o : Int)), .own (.str t), .own (rowF n o), .no, .no]) (by rw [← e3]; rfl) ?_
    refine sv_cons (s1_expr (eApp 2 <| eMade <| mk_oneK K6 hr2 (XX.fld "NotOne" (by decide) "choice" (by decide)) <| kv_cons <| nm 7 <| kv_nil ⟨_, rfl, rfl, _, _, rfl, rfl, by omega, ?_⟩))
    obtain ⟨LM4, e4⟩ : ∃ l, LM3 ++ [exD K ("NotOne", [.str t])] = l := ⟨_, rfl⟩
    refine sv_norm (ss' := [.par (.fz (ns.map D.int)), .own d, .own (.lst LM4), .own (.lst LD3), .own (.int (i : Int)), .own (.int n), .own (.int (o : Int)), .own (.str t), .own (rowF n o), .no, .no]) (by rw [← e4]; rfl) ?_
    refine sv_cons (sSet 3 nd <| eCat <| nm 3 <| dLst <| av_cons <| eTag <| nm 5 ⟨_, _, rfl, pure_i, frz_i, av_cons <| eTag <| eNeg <| ev_int ⟨_, _, rfl, pure_i, frz_i, av_cons <| eTag <| nm 7 ⟨_, _, rfl, pure_str, frz_str, av_cons <| eTag <| nmF 8 rfl rf ⟨_, _, rfl, row_pure n o, row_frz n o, av_cons <| eTag <| nm 7 ⟨_, _, rfl, pure_str, frz_str, av_nil ⟨rfl, _, _, rfl, rfl, fd3, ?_, ?_, rfl, rfl, ?_⟩⟩⟩⟩⟩⟩)
    · exact fl_cons ft1i <| fl_cons ft1i <| fl_cons ft1s <| fl_cons (ft1 rf) <| fl_cons ft1s fl_nil
    · rw [ld3]
      show 13 * i + 8 + 5 ≤ 100000
      omega
    obtain ⟨LD4, g4⟩ : ∃ l, LD3 ++ [.fz [.str "number", .int n], .fz [.str "table", .int (-1)], .fz [.str "flat", .str t], .fz [.str "dipped", rowF n o], .fz [.str "not one", .str t]] = l := ⟨_, rfl⟩
    refine sv_norm (ss' := [.par (.fz (ns.map D.int)), .own d, .own (.lst LM4), .own (.lst LD4), .own (.int (i : Int)), .own (.int n), .own (.int (o : Int)), .own (.str t), .own (rowF n o), .no, .no]) (by rw [← g4]; rfl) ?_
    refine sv_forget [4, 5, 6, 7, 8] (sv_nil ⟨d, MD ++ newQ n o t, hp, ?_, by rw [List.length_append, hM]; show 13 * i + 13 = _; omega, fun q hq => (List.mem_append.mp hq).elim (hG q) (newQ_good tok q)⟩)
    have em : LM4 = (MD ++ newQ n o t).map (exD K) := by rw [← e4, ← e3, ← e2, ← e1, ← LM0]; exact made_eq
    have ed : LD4 = (MD ++ newQ n o t).map duD := by rw [← g4, ← g3, ← g2, ← g1, ← LD0]; exact due_eq
    rw [← em, ← ed]
    rfl
  rintro s ⟨d, MD, hp, rfl, hM, hG⟩
  rw [len_range] at hM
  have hM : MD.length = 78 := hM
  obtain ⟨fl1, fl2⟩ := flats_good hG K
  refine sv_norm (ss' := [.par (.fz (ns.map D.int)), .own d, .own (.lst (MD.map (exD K))), .own (.lst (MD.map duD)), .no, .no, .no, .no, .no, .no, .no]) (by rfl) ?_
  have pe : (D.lst []).pl 16 = true := rfl
  have pb : (D.lst [.str "name", .str "b"]).pl 16 = true := by
    refine pl_lst (n := 15) ?_
    unfold D.pls D.pls D.pls
    rw [pl_str (by decide +kernel), pl_str (by decide +kernel)]
    rfl
  refine sv_cons (s1_if <| tv_w <| wv_or <| tNeF hu <| eLc [("_law_one", 10)] nd (blkOk_by (N := n_law) (sc := defScope s_law) (by decide +kernel)) <| wLst <| nm 2 ⟨_, rfl, fun d hd => D.flats_mem fl1 d hd, fun i s acc => s = [.par (.fz (ns.map D.int)), .own d, .own (.lst (MD.map (exD K))), .own (.lst (MD.map duD)), .no, .no, .no, .no, .no, .no, .no] ∧ acc = (MD.take i).map fun q => D.lst (kindOf q.1 q.2), ⟨rfl, rfl⟩, ?_, ?_⟩)
  · rintro i el s acc hel ⟨rfl, rfl⟩ s0 H0 C0 cl fp
    obtain ⟨dd, hd, rfl⟩ := els_get hel
    rw [List.getElem?_map] at hd
    obtain ⟨q, hq, rfl⟩ := Option.map_eq_some_iff.mp hd
    have hin := getElem?_lt hq
    obtain ⟨⟨h1, h2, h3⟩, _⟩ := hG q (List.mem_of_getElem? hq)
    have hf : (exD K q).flat = true := by unfold exD D.flat; exact h3
    exact gOne 10 nd fun s0 H0 C0 cl fp => tsv_nil ⟨fun _ s0 H0 C0 cl fp => cCall Ki hr (by decide) <| av_cons <| nmF 10 rfl hf <| av_nil ⟨q.1, q.2, rfl, ⟨h1, h2, h3⟩, _, rfl, by rw [List.length_map, List.length_take]; omega, rfl, by rw [take_next hq, List.map_append]; rfl⟩, fun z => (nomatch z)⟩
  rintro s acc ⟨rfl, rfl⟩
  rw [List.length_map, List.length_map, List.take_length]
  refine nm 3 ⟨by rw [ths_good]; exact pl_good hG, pl_good hG, fun z => by rw [ths_good] at z; exact dneg z, fun _ => wv_or1 <| tv_not <| tVal <| cCall0 PL hr (by decide) ⟨rfl, fun z => (nomatch z), fun _ => sv_nil ?_⟩⟩
  refine sv_cons (s1_if <| tv_w <| wv_or <| tNeF hu <| cCall Ki hr (by decide) <| av_cons <| eMade <| mk_text XS.plS <| av_nil ⟨"SlackError", [], rfl, ⟨by decide, rfl, rfl⟩, dLst <| av_nil ⟨rfl, by rw [show D.lst (kindOf "SlackError" []) = .lst [] from rfl, D.th_id pe]; exact pe, by rw [D.th_id pe]; exact pe, fun z => by rw [show D.lst (kindOf "SlackError" []) = .lst [] from rfl] at z; exact dneg z, fun _ => wv_or1 <| tNeF hu <| cCall Ki hr (by decide) <| av_cons <| eMade <| mk_oneK K7 hr2 (XX.fld "NoName" (by decide) "name" (by decide)) <| kv_cons <| ev_str <| kv_nil ⟨_, rfl, rfl, av_nil ⟨"NoName", [.str "b"], rfl, ⟨by decide, rfl, rfl⟩, dLst <| av_cons <| ev_str <| av_cons <| ev_str <| av_nil ⟨rfl, by rw [show D.lst (kindOf "NoName" [.str "b"]) = .lst [.str "name", .str "b"] from rfl, D.th_id pb]; exact pb, by rw [D.th_id pb]; exact pb, fun z => by rw [show D.lst (kindOf "NoName" [.str "b"]) = .lst [.str "name", .str "b"] from rfl] at z; exact dneg z, fun _ => sv_nil ?_⟩⟩⟩⟩⟩)
  exact sv_one (s1_ret <| eIsXT "ValueError" T.isi T.verr <| eMade <| mk_none XS.plS (.inr ⟨_, _, _, true, rfl, XS.exc "SlackError" (by decide), XS.kitV "SlackError" (by decide), _, rfl, hk⟩))
end
end K15
set_option maxHeartbeats 0
namespace K15
open PySem PySem.Spec PyProof.Rows L2 DL
def d_NoNumber___init__ : He.DefD := ⟨("NoNumber", some "__init__"), "__init__", "NoNumber.__init__", defArgs s_NoNumber___init__, defBody s_NoNumber___init__, defScope s_NoNumber___init__, [], []⟩
def d_NoTable___init__ : He.DefD := ⟨("NoTable", some "__init__"), "__init__", "NoTable.__init__", defArgs s_NoTable___init__, defBody s_NoTable___init__, defScope s_NoTable___init__, [], []⟩
def d_Flat___init__ : He.DefD := ⟨("Flat", some "__init__"), "__init__", "Flat.__init__", defArgs s_Flat___init__, defBody s_Flat___init__, defScope s_Flat___init__, [], []⟩
def d_Dipped___init__ : He.DefD := ⟨("Dipped", some "__init__"), "__init__", "Dipped.__init__", defArgs s_Dipped___init__, defBody s_Dipped___init__, defScope s_Dipped___init__, [], []⟩
def d_NotOne___init__ : He.DefD := ⟨("NotOne", some "__init__"), "__init__", "NotOne.__init__", defArgs s_NotOne___init__, defBody s_NotOne___init__, defScope s_NotOne___init__, [], []⟩
def d_NoName___init__ : He.DefD := ⟨("NoName", some "__init__"), "__init__", "NoName.__init__", defArgs s_NoName___init__, defBody s_NoName___init__, defScope s_NoName___init__, [], []⟩
def d_Lifted___init__ : He.DefD := ⟨("Lifted", some "__init__"), "__init__", "Lifted.__init__", defArgs s_Lifted___init__, defBody s_Lifted___init__, defScope s_Lifted___init__, [], []⟩
def d__law_mixed : He.DefD := ⟨("_law_mixed", none), "_law_mixed", "_law_mixed", defArgs s__law_mixed, defBody s__law_mixed, defScope s__law_mixed, [], []⟩
def d__law_pile : He.DefD := ⟨("_law_pile", none), "_law_pile", "_law_pile", defArgs s__law_pile, defBody s__law_pile, defScope s__law_pile, [], []⟩
def d__law_take : He.DefD := ⟨("_law_take", none), "_law_take", "_law_take", defArgs s__law_take, defBody s__law_take, defScope s__law_take, [], []⟩
def d__law_kind : He.DefD := ⟨("_law_kind", none), "_law_kind", "_law_kind", defArgs s__law_kind, defBody s__law_kind, defScope s__law_kind, [], []⟩
def d__law_plain : He.DefD := ⟨("_law_plain", none), "_law_plain", "_law_plain", defArgs s__law_plain, defBody s__law_plain, defScope s__law_plain, [], []⟩
def d_law : He.DefD := ⟨("law", none), "law", "law", defArgs s_law, defBody s_law, defScope s_law, [], []⟩
def fn : List He.DefD := [d__law_mixed, d__law_pile, d__law_take, d__law_kind, d__law_plain, d_law, d_NoNumber___init__, d_NoTable___init__, d_Flat___init__, d_Dipped___init__, d_NotOne___init__, d_NoName___init__, d_Lifted___init__]
def tb : List (Str × List He.Dv) := []
def fa : List He.Fa := [.glo "_law_mixed", .glo "_law_pile", .glo "_law_take", .glo "_law_kind", .glo "_law_plain", .glo "law", .free "len", .free "range", .free "str", .free "isinstance", .free "list", .free "sorted", .free "sum", .free "abs", .free "int", .free "bool", .free "tuple", .free "divmod", .free "zip", .free "enumerate", .free "max", .free "min", .free "any", .free "all", .free "ValueError"]
abbrev R : PySem.W.OpenRow := PySem.W.OpenLaw.row PySem.Challenge.rw_eitherslack_k15_refusals_made
abbrev hk : PySem.W.Hook := hookF 4 (withSla (xAllI ["NoNumber", "NoTable", "Flat", "Dipped", "NotOne", "NoName", "Lifted"]) ) tb fa fn
def ob (s : PySem.W.SharedT) : AlT := obsFG 4 (withSla (xAllI ["NoNumber", "NoTable", "Flat", "Dipped", "NotOne", "NoName", "Lifted"]) ) tb fa fn (HandSHeadRun.getT s)
theorem ob_eq (s : PySem.W.SharedT) : ob s = hk.obs s.abs := obsFG_eq (HandSHeadRun.getT_eq s)
abbrev lo0 : List Str := ["SlackError", "NoNumber", "NoTable", "NoRow", "NoChoice", "Flat", "NoSaying", "Lifted", "NoCover", "Dipped", "NotOne", "NoText", "NoLine", "NoName", "_law_mixed", "_law_pile", "_law_take", "_law_kind", "_law_plain"]
abbrev loose : List Str := lo0
theorem run (w : World) : HandSHeadRun.RunEq R (PySem.W.view R.prog [21]) hk ob 9000 K15.loose w := by
  intro os
  kernel_rfl
theorem facts {P : Program} {w : World} {K : PySem.W.Frag} {h : Heap} {mg : Str → Option Value} {f : Addr} (X : K.In h) (G : h.Ns mainGlobals mg) (hfa : mg ("law" : Str) = some (.ref f)) (cT : SaysE (withSla (xAllI ["NoNumber", "NoTable", "Flat", "Dipped", "NotOne", "NoName", "Lifted"]) ) tb fa fn K) :
    ∃ fd : FuncData, (∀ (s : Shared) (v : Value), BindsTo s fd ⟨[v], []⟩ [("_law_script", v)]) ∧ ∀ base : Heap, K.In base → base.Ns mainGlobals mg → FnOk P w K mg base CX0 3 f fd ["_law_script"] (spP K FLaw) := by
  obtain ⟨cx, cT⟩ := cT.ex
  obtain ⟨cx, cs⟩ := He.ba cx
  obtain ⟨cx, ci⟩ := He.ba cx
  obtain ⟨cb, cl⟩ := He.ba ci
  have XX := xAll_ok X G cx
  have XS := xfs_of XX cs
  have BI := bB_ok (XX.glo "SlackError" (by decide)) cb
  have c := cT.says
  obtain ⟨fd__law_mixed, FD__law_mixed⟩ := c.def_ 0 (d := d__law_mixed) rfl
  have g__law_mixed := He.glo_ok X G (c.fact 0 (f := .glo "_law_mixed") rfl)
  obtain ⟨fd__law_pile, FD__law_pile⟩ := c.def_ 1 (d := d__law_pile) rfl
  have g__law_pile := He.glo_ok X G (c.fact 1 (f := .glo "_law_pile") rfl)
  obtain ⟨fd__law_take, FD__law_take⟩ := c.def_ 2 (d := d__law_take) rfl
  have g__law_take := He.glo_ok X G (c.fact 2 (f := .glo "_law_take") rfl)
  obtain ⟨fd__law_kind, FD__law_kind⟩ := c.def_ 3 (d := d__law_kind) rfl
  have g__law_kind := He.glo_ok X G (c.fact 3 (f := .glo "_law_kind") rfl)
  obtain ⟨fd__law_plain, FD__law_plain⟩ := c.def_ 4 (d := d__law_plain) rfl
  have g__law_plain := He.glo_ok X G (c.fact 4 (f := .glo "_law_plain") rfl)
  obtain ⟨fd_law, FD_law⟩ := c.def_ 5 (d := d_law) rfl
  have e := hfa.symm.trans (He.glo_ok X G (c.fact 5 (f := .glo "law") rfl))
  cases e
  have T : Txt mg := ⟨He.free_ok X G (c.fact 6 (f := .free "len") rfl), He.free_ok X G (c.fact 7 (f := .free "range") rfl), He.free_ok X G (c.fact 8 (f := .free "str") rfl), He.free_ok X G (c.fact 9 (f := .free "isinstance") rfl), He.free_ok X G (c.fact 10 (f := .free "list") rfl), He.free_ok X G (c.fact 11 (f := .free "sorted") rfl), He.free_ok X G (c.fact 12 (f := .free "sum") rfl), He.free_ok X G (c.fact 13 (f := .free "abs") rfl), He.free_ok X G (c.fact 14 (f := .free "int") rfl), He.free_ok X G (c.fact 15 (f := .free "bool") rfl), He.free_ok X G (c.fact 16 (f := .free "tuple") rfl), He.free_ok X G (c.fact 17 (f := .free "divmod") rfl), He.free_ok X G (c.fact 18 (f := .free "zip") rfl), He.free_ok X G (c.fact 19 (f := .free "enumerate") rfl), He.free_ok X G (c.fact 20 (f := .free "max") rfl), He.free_ok X G (c.fact 21 (f := .free "min") rfl), He.free_ok X G (c.fact 22 (f := .free "any") rfl), He.free_ok X G (c.fact 23 (f := .free "all") rfl), He.free_ok X G (c.fact 24 (f := .free "ValueError") rfl)⟩
  have b := FunD.bindsA (ps := ["_law_script"]) FD_law fun _ _ _ _ _ _ us hl => match us, hl with | [_], _ => rfl
  refine ⟨fd_law, fun s v => b s [v] rfl, fun base _ _ => ?_⟩
  obtain ⟨fd_NoNumber, FD_NoNumber⟩ := c.def_ 6 (d := d_NoNumber___init__) rfl
  have o_NoNumber := init1_ok (P := P) (w := w) (mg := mg) (base := base) FD_NoNumber sc_NoNumber___init__ BI rfl
  have i_NoNumber : iB K "NoNumber" = true := List.all_eq_true.mp cl "NoNumber" (by decide)
  have b_NoNumber := FunD.bindsN (ps := ["self", "top"]) FD_NoNumber fun _ _ _ _ _ _ us hl => match us, hl with | [_, _], _ => rfl
  have N_NoNumber : ExI P w K mg base "NoNumber" (He.ga K "NoNumber") ["self", "top"] (spF1 K "top") := exI_of i_NoNumber (XX.glo "NoNumber" (by decide)) o_NoNumber.1 b_NoNumber
  have H_NoNumber : ExH P w K mg base "NoNumber" (He.ga K "NoNumber") ["self", "top"] (spF1 K "top") := ⟨(iB_ok i_NoNumber).1, XX.glo "NoNumber" (by decide), _, fd_NoNumber, (iB_ok i_NoNumber).2.1, (iB_ok i_NoNumber).2.2, o_NoNumber.2, b_NoNumber⟩
  obtain ⟨fd_NoTable, FD_NoTable⟩ := c.def_ 7 (d := d_NoTable___init__) rfl
  have o_NoTable := init1_ok (P := P) (w := w) (mg := mg) (base := base) FD_NoTable sc_NoTable___init__ BI rfl
  have i_NoTable : iB K "NoTable" = true := List.all_eq_true.mp cl "NoTable" (by decide)
  have b_NoTable := FunD.bindsN (ps := ["self", "place"]) FD_NoTable fun _ _ _ _ _ _ us hl => match us, hl with | [_, _], _ => rfl
  have N_NoTable : ExI P w K mg base "NoTable" (He.ga K "NoTable") ["self", "place"] (spF1 K "place") := exI_of i_NoTable (XX.glo "NoTable" (by decide)) o_NoTable.1 b_NoTable
  have H_NoTable : ExH P w K mg base "NoTable" (He.ga K "NoTable") ["self", "place"] (spF1 K "place") := ⟨(iB_ok i_NoTable).1, XX.glo "NoTable" (by decide), _, fd_NoTable, (iB_ok i_NoTable).2.1, (iB_ok i_NoTable).2.2, o_NoTable.2, b_NoTable⟩
  obtain ⟨fd_Flat, FD_Flat⟩ := c.def_ 8 (d := d_Flat___init__) rfl
  have o_Flat := init1_ok (P := P) (w := w) (mg := mg) (base := base) FD_Flat sc_Flat___init__ BI rfl
  have i_Flat : iB K "Flat" = true := List.all_eq_true.mp cl "Flat" (by decide)
  have b_Flat := FunD.bindsN (ps := ["self", "choice"]) FD_Flat fun _ _ _ _ _ _ us hl => match us, hl with | [_, _], _ => rfl
  have N_Flat : ExI P w K mg base "Flat" (He.ga K "Flat") ["self", "choice"] (spF1 K "choice") := exI_of i_Flat (XX.glo "Flat" (by decide)) o_Flat.1 b_Flat
  have H_Flat : ExH P w K mg base "Flat" (He.ga K "Flat") ["self", "choice"] (spF1 K "choice") := ⟨(iB_ok i_Flat).1, XX.glo "Flat" (by decide), _, fd_Flat, (iB_ok i_Flat).2.1, (iB_ok i_Flat).2.2, o_Flat.2, b_Flat⟩
  obtain ⟨fd_Dipped, FD_Dipped⟩ := c.def_ 9 (d := d_Dipped___init__) rfl
  have o_Dipped := init1_ok (P := P) (w := w) (mg := mg) (base := base) FD_Dipped sc_Dipped___init__ BI rfl
  have i_Dipped : iB K "Dipped" = true := List.all_eq_true.mp cl "Dipped" (by decide)
  have b_Dipped := FunD.bindsN (ps := ["self", "row"]) FD_Dipped fun _ _ _ _ _ _ us hl => match us, hl with | [_, _], _ => rfl
  have N_Dipped : ExI P w K mg base "Dipped" (He.ga K "Dipped") ["self", "row"] (spF1 K "row") := exI_of i_Dipped (XX.glo "Dipped" (by decide)) o_Dipped.1 b_Dipped
  have H_Dipped : ExH P w K mg base "Dipped" (He.ga K "Dipped") ["self", "row"] (spF1 K "row") := ⟨(iB_ok i_Dipped).1, XX.glo "Dipped" (by decide), _, fd_Dipped, (iB_ok i_Dipped).2.1, (iB_ok i_Dipped).2.2, o_Dipped.2, b_Dipped⟩
  obtain ⟨fd_NotOne, FD_NotOne⟩ := c.def_ 10 (d := d_NotOne___init__) rfl
  have o_NotOne := init1_ok (P := P) (w := w) (mg := mg) (base := base) FD_NotOne sc_NotOne___init__ BI rfl
  have i_NotOne : iB K "NotOne" = true := List.all_eq_true.mp cl "NotOne" (by decide)
  have b_NotOne := FunD.bindsN (ps := ["self", "choice"]) FD_NotOne fun _ _ _ _ _ _ us hl => match us, hl with | [_, _], _ => rfl
  have N_NotOne : ExI P w K mg base "NotOne" (He.ga K "NotOne") ["self", "choice"] (spF1 K "choice") := exI_of i_NotOne (XX.glo "NotOne" (by decide)) o_NotOne.1 b_NotOne
  have H_NotOne : ExH P w K mg base "NotOne" (He.ga K "NotOne") ["self", "choice"] (spF1 K "choice") := ⟨(iB_ok i_NotOne).1, XX.glo "NotOne" (by decide), _, fd_NotOne, (iB_ok i_NotOne).2.1, (iB_ok i_NotOne).2.2, o_NotOne.2, b_NotOne⟩
  obtain ⟨fd_NoName, FD_NoName⟩ := c.def_ 11 (d := d_NoName___init__) rfl
  have o_NoName := init1_ok (P := P) (w := w) (mg := mg) (base := base) FD_NoName sc_NoName___init__ BI rfl
  have i_NoName : iB K "NoName" = true := List.all_eq_true.mp cl "NoName" (by decide)
  have b_NoName := FunD.bindsN (ps := ["self", "name"]) FD_NoName fun _ _ _ _ _ _ us hl => match us, hl with | [_, _], _ => rfl
  have N_NoName : ExI P w K mg base "NoName" (He.ga K "NoName") ["self", "name"] (spF1 K "name") := exI_of i_NoName (XX.glo "NoName" (by decide)) o_NoName.1 b_NoName
  have H_NoName : ExH P w K mg base "NoName" (He.ga K "NoName") ["self", "name"] (spF1 K "name") := ⟨(iB_ok i_NoName).1, XX.glo "NoName" (by decide), _, fd_NoName, (iB_ok i_NoName).2.1, (iB_ok i_NoName).2.2, o_NoName.2, b_NoName⟩
  obtain ⟨fd_Lifted, FD_Lifted⟩ := c.def_ 12 (d := d_Lifted___init__) rfl
  have o_Lifted := init2_ok (P := P) (w := w) (mg := mg) (base := base) FD_Lifted sc_Lifted___init__ BI rfl
  have i_Lifted : iB K "Lifted" = true := List.all_eq_true.mp cl "Lifted" (by decide)
  have b_Lifted := FunD.bindsN (ps := ["self", "row", "column"]) FD_Lifted fun _ _ _ _ _ _ us hl => match us, hl with | [_, _, _], _ => rfl
  have N_Lifted : ExI P w K mg base "Lifted" (He.ga K "Lifted") ["self", "row", "column"] (spF2 K "row" "column") := exI_of i_Lifted (XX.glo "Lifted" (by decide)) o_Lifted b_Lifted
  have K1 : ExIK P w K mg base "NoNumber" (He.ga K "NoNumber") ["self", "top"] (spF1 K "top") ["top"] [0, 1] := ⟨(iB_ok i_NoNumber).1, XX.glo "NoNumber" (by decide), _, fd_NoNumber, (iB_ok i_NoNumber).2.1, (iB_ok i_NoNumber).2.2, o_NoNumber.1, kbN FD_NoNumber 1 ["top"] [0, 1] fun kV doc pm an cdv ct us ws hu hw => match us, ws, hu, hw with | [_], [_], _, _ => rfl⟩
  have K2 : ExIK P w K mg base "NoTable" (He.ga K "NoTable") ["self", "place"] (spF1 K "place") ["place"] [0, 1] := ⟨(iB_ok i_NoTable).1, XX.glo "NoTable" (by decide), _, fd_NoTable, (iB_ok i_NoTable).2.1, (iB_ok i_NoTable).2.2, o_NoTable.1, kbN FD_NoTable 1 ["place"] [0, 1] fun kV doc pm an cdv ct us ws hu hw => match us, ws, hu, hw with | [_], [_], _, _ => rfl⟩
  have K3 : ExIK P w K mg base "Flat" (He.ga K "Flat") ["self", "choice"] (spF1 K "choice") ["choice"] [0, 1] := ⟨(iB_ok i_Flat).1, XX.glo "Flat" (by decide), _, fd_Flat, (iB_ok i_Flat).2.1, (iB_ok i_Flat).2.2, o_Flat.1, kbN FD_Flat 1 ["choice"] [0, 1] fun kV doc pm an cdv ct us ws hu hw => match us, ws, hu, hw with | [_], [_], _, _ => rfl⟩
  have K4 : ExIK P w K mg base "Lifted" (He.ga K "Lifted") ["self", "row", "column"] (spF2 K "row" "column") ["column", "row"] [0, 2, 1] := ⟨(iB_ok i_Lifted).1, XX.glo "Lifted" (by decide), _, fd_Lifted, (iB_ok i_Lifted).2.1, (iB_ok i_Lifted).2.2, o_Lifted, kbN FD_Lifted 1 ["column", "row"] [0, 2, 1] fun kV doc pm an cdv ct us ws hu hw => match us, ws, hu, hw with | [_], [_, _], _, _ => rfl⟩
  have K5 : ExIK P w K mg base "Dipped" (He.ga K "Dipped") ["self", "row"] (spF1 K "row") ["row"] [0, 1] := ⟨(iB_ok i_Dipped).1, XX.glo "Dipped" (by decide), _, fd_Dipped, (iB_ok i_Dipped).2.1, (iB_ok i_Dipped).2.2, o_Dipped.1, kbN FD_Dipped 1 ["row"] [0, 1] fun kV doc pm an cdv ct us ws hu hw => match us, ws, hu, hw with | [_], [_], _, _ => rfl⟩
  have K6 : ExIK P w K mg base "NotOne" (He.ga K "NotOne") ["self", "choice"] (spF1 K "choice") ["choice"] [0, 1] := ⟨(iB_ok i_NotOne).1, XX.glo "NotOne" (by decide), _, fd_NotOne, (iB_ok i_NotOne).2.1, (iB_ok i_NotOne).2.2, o_NotOne.1, kbN FD_NotOne 1 ["choice"] [0, 1] fun kV doc pm an cdv ct us ws hu hw => match us, ws, hu, hw with | [_], [_], _, _ => rfl⟩
  have K7 : ExIK P w K mg base "NoName" (He.ga K "NoName") ["self", "name"] (spF1 K "name") ["name"] [0, 1] := ⟨(iB_ok i_NoName).1, XX.glo "NoName" (by decide), _, fd_NoName, (iB_ok i_NoName).2.1, (iB_ok i_NoName).2.2, o_NoName.1, kbN FD_NoName 1 ["name"] [0, 1] fun kV doc pm an cdv ct us ws hu hw => match us, ws, hu, hw with | [_], [_], _, _ => rfl⟩
  have b__law_mixed := FunD.bindsN (ps := p__law_mixed) FD__law_mixed fun _ _ _ _ _ _ us hl => match us, hl with | [_, _], _ => rfl
  have D__law_mixed : DefAt P w K mg base CX0 1 "_law_mixed" p__law_mixed _ fd__law_mixed [] F__law_mixed := ⟨ok__law_mixed FD__law_mixed , g__law_mixed, FD__law_mixed.kp, [], [], b__law_mixed, .nil, fun H => reps_nil⟩
  have b__law_pile := FunD.bindsN (ps := p__law_pile) FD__law_pile fun _ _ _ _ _ _ us hl => match us, hl with | [_, _], _ => rfl
  have D__law_pile : DefAt P w K mg base CX0 1 "_law_pile" p__law_pile _ fd__law_pile [] F__law_pile := ⟨ok__law_pile FD__law_pile T, g__law_pile, FD__law_pile.kp, [], [], b__law_pile, .nil, fun H => reps_nil⟩
  have b__law_take := FunD.bindsN (ps := p__law_take) FD__law_take fun _ _ _ _ _ _ us hl => match us, hl with | [_, _], _ => rfl
  have D__law_take : DefI P w K mg base CX0 2 "_law_take" p__law_take _ fd__law_take [] F__law_take := ⟨ok__law_take FD__law_take D__law_mixed, g__law_take, FD__law_take.kp, [], [], b__law_take, .nil, fun H => reps_nil⟩
  have b__law_kind := FunD.bindsN (ps := p__law_kind) FD__law_kind fun _ _ _ _ _ _ us hl => match us, hl with | [_], _ => rfl
  have D__law_kind : DefAt P w K mg base CX0 1 "_law_kind" p__law_kind _ fd__law_kind [] (F__law_kind K) := ⟨ok__law_kind FD__law_kind T XS, g__law_kind, FD__law_kind.kp, [], [], b__law_kind, .nil, fun H => reps_nil⟩
  have b__law_plain := FunD.bindsN (ps := p__law_plain) FD__law_plain fun _ _ _ _ _ _ us hl => match us, hl with | [], _ => rfl
  have D__law_plain : DefAt P w K mg base CX0 2 "_law_plain" p__law_plain _ fd__law_plain [] F__law_plain := ⟨ok__law_plain FD__law_plain XX D__law_kind, g__law_plain, FD__law_plain.kp, [], [], b__law_plain, .nil, fun H => reps_nil⟩
  exact ok_law FD_law T XX XS D__law_pile D__law_take D__law_kind D__law_plain N_NoNumber N_NoTable N_Flat N_Lifted N_Dipped N_NotOne N_NoName K1 K2 K3 K4 K5 K6 K7
end K15

open PySem PySem.W PySem.Calls PyProof.Rows in
theorem PySem.Challenge.cw_eitherslack_k15_refusals_made_holds : PySem.Challenge.rw_eitherslack_k15_refusals_made.Holds := by
  w_on; o_law
  refine HandSHeadRun.head_any (r := OpenLaw.row PySem.Challenge.rw_eitherslack_k15_refusals_made) (q := view (OpenLaw.row PySem.Challenge.rw_eitherslack_k15_refusals_made).prog [21]) (H := K15.hk) (ob := K15.ob) (M := 9000) (loose := K15.loose) (d := HandSHeadRun.topDef (OpenLaw.row PySem.Challenge.rw_eitherslack_k15_refusals_made).prog 21) (kwd := []) K15.ob_eq
    (by kernel_rfl) (fun s => by kernel_rfl) K15.run (by kernel_rfl) (by kernel_rfl) (by kernel_rfl) (by rfl) (by first | assumption | decide +kernel) (by decide +kernel) ⟨rfl, rfl, rfl, rfl, rfl, by decide +kernel⟩ ?hw ?hc
  case hw => w_witness2
  case hc =>
    refine L2.walk_ofE (l := PySem.Challenge.rw_eitherslack_k15_refusals_made) (n := 63) (k := 3) (x := "_law_script") (CX := L2.CX0) rfl (by decide) (by kernel_rfl) ⟨rfl, by decide, by decide⟩ ?F (fun _ _ _ _ z => z)
    intro w mg fa h Y G hmg0
    obtain ⟨K, KX, c⟩ := Y
    have hmg : mg ("law" : PySem.Str) = some (.ref fa) := by
      have e : (HandSHeadRun.topDef (OpenLaw.row PySem.Challenge.rw_eitherslack_k15_refusals_made).prog 21).name = ("law" : PySem.Str) := by kernel_rfl
      rw [← e]
      exact hmg0
    obtain ⟨fd, hb, hF⟩ := K15.facts (P := (PySem.Challenge.rw_eitherslack_k15_refusals_made).prog) (w := w) KX G hmg c
    refine ⟨K, fd, DL.spP K K15.FLaw, KX, hb, fun H a ns hl hO hS => ?_, hF⟩
    refine DL.spP_use (ds := [.fz (ns.map DL.D.int)]) (DL.reps_cons ?_ DL.reps_nil) (k := fun d => d = .bl true) ⟨ns, hl, rfl, rfl⟩ fun d v H' e n => ?_
    · unfold DL.RepR
      exact ⟨a, _, rfl, DL.SqF.of hO hS, DL.reps_int ns⟩
    · subst e
      obtain ⟨_, F, r, _⟩ := n
      unfold DL.RepO at r
      exact r.1
