import PyProof.Rows.All
import Wide.All
import OpenK.AllK
import Wide.FinOn
import HandS.ForMost
import HandS.Defaults
import HandS.IsInst
import HandS.Wide
import HandS.Style
import HandS.HeadHook2
import HandS.WideBits
import HandS.TryOnly
import HandS.HeadHook1
import KE.KStateDown
import HandS.Head0
import HandS.Head1
import HandS.Head2
import HandS.HeadEnd
import PySem.Challenge.RW_eitherslack_k02_sums_and_products
set_option Elab.async false
set_option linter.all false
set_option maxRecDepth 100000
/-! The data layer, part 1: data, what a value of the heap stands for, owned and lent lists. -/
namespace DL
open PySem L2

/-- plain data, as the program's values stand for it -/
inductive D where
  | non | bl (b : Bool) | int (i : Int) | str (x : Str) | raw (v : V)
  | tup (l : List D) | lst (l : List D) | fz (l : List D) | ins (C : Addr) (ns : List Str) (l : List D)

mutual
/-- v stands for the datum in H (read alone) -/
def RepR (K : PySem.W.Frag) (H : Hp) : D → V → Prop
  | .non, v => v = .non
  | .bl b, v => v = .bl b
  | .int i, v => v = .int i
  | .str x, v => v = .str x
  | .raw w, v => v = w
  | .tup l, v => ∃ a vs, v = .ref a ∧ SqT K H a vs ∧ RepRs K H l vs
  | .lst l, v => ∃ a vs, v = .ref a ∧ H a = some (.lst vs) ∧ RepRs K H l vs
  | .fz l, v => ∃ a vs, v = .ref a ∧ SqL K H a vs ∧ RepRs K H l vs
  | .ins C ns l, v => ∃ a dx fs, v = .ref a ∧ H a = some (.ins C dx fs) ∧ fs.map (·.1) = ns ∧ RepRs K H l (fs.map (·.2))
def RepRs (K : PySem.W.Frag) (H : Hp) : List D → List V → Prop
  | [], vs => vs = []
  | d :: ds, vs => ∃ w ws, vs = w :: ws ∧ RepR K H d w ∧ RepRs K H ds ws
end

mutual
/-- .. and owns its lists: F, each once -/
def RepO (K : PySem.W.Frag) (H : Hp) : D → V → List Addr → Prop
  | .non, v, F => v = .non ∧ F = []
  | .bl b, v, F => v = .bl b ∧ F = []
  | .int i, v, F => v = .int i ∧ F = []
  | .str x, v, F => v = .str x ∧ F = []
  | .raw w, v, F => v = w ∧ F = []
  | .tup l, v, F => ∃ a vs, v = .ref a ∧ SqT K H a vs ∧ RepOs K H l vs F
  | .lst l, v, F => ∃ a vs G, v = .ref a ∧ H a = some (.lst vs) ∧ F = a :: G ∧ RepOs K H l vs G
  | .fz l, v, F => ∃ a vs, v = .ref a ∧ SqL K H a vs ∧ RepOs K H l vs F ∧ False
  | .ins C ns l, v, F => ∃ a dx fs G, v = .ref a ∧ H a = some (.ins C dx fs) ∧ H dx = some (.own a) ∧ fs.map (·.1) = ns ∧ F = a :: dx :: G ∧ RepOs K H l (fs.map (·.2)) G
def RepOs (K : PySem.W.Frag) (H : Hp) : List D → List V → List Addr → Prop
  | [], vs, F => vs = [] ∧ F = []
  | d :: ds, vs, F => ∃ w ws F1 F2, vs = w :: ws ∧ F = F1 ++ F2 ∧ RepO K H d w F1 ∧ RepOs K H ds ws F2
end

mutual
/-- no list in it -/
def D.flat : D → Bool
  | .tup l => D.flats l
  | .lst _ => false
  | .fz _ => false
  | .ins _ _ _ => false
  | _ => true
def D.flats : List D → Bool
  | [] => true
  | d :: ds => d.flat && D.flats ds
end

def Ex (H H' : Hp) : Prop := ∀ a o, H a = some o → H' a = some o
theorem Ex.refl (H : Hp) : Ex H H := fun _ _ h => h
theorem Ex.trans {H H1 H2 : Hp} (a : Ex H H1) (b : Ex H1 H2) : Ex H H2 := fun x o h => b x o (a x o h)
theorem Ex.new {H : Hp} {p : Addr} {o : HO} (h : H p = none) : Ex H (upd H p o) := fun a u e => by
  rw [upd_ne (ne_of_none e h)]
  exact e
theorem Ex.back {H H' : Hp} {p : Addr} (e : Ex H H') (h : H' p = none) : H p = none := by
  cases h1 : H p with
  | none => rfl
  | some o =>
    rw [e p o h1] at h
    cases h

/-- what never changes -/
def stab : HO → Prop
  | .tup _ => True
  | .frz _ _ => True
  | _ => False
def TK (H H' : Hp) : Prop := ∀ a o, H a = some o → stab o → H' a = some o
theorem Ex.tk {H H' : Hp} (e : Ex H H') : TK H H' := fun a o h _ => e a o h
theorem TK.refl (H : Hp) : TK H H := fun _ _ h _ => h
theorem TK.upd {H : Hp} {a : Addr} {o u : HO} (h : H a = some o) (n : ¬ stab o) : TK H (upd H a u) := fun b x e s => by
  have nb : b ≠ a := by
    intro z
    subst z
    rw [h] at e
    cases e
    exact n s
  rw [upd_ne nb]
  exact e
theorem TK.sqt {K : PySem.W.Frag} {H H' : Hp} {a : Addr} {vs : List V} (t : TK H H') (h : SqT K H a vs) : SqT K H' a vs := by
  rcases h with (h | ⟨o, h⟩) | h
  · exact .inl (.inl (t _ _ h trivial))
  · exact .inl (.inr ⟨o, t _ _ h trivial⟩)
  · exact .inr h
theorem Ex.sqt {K : PySem.W.Frag} {H H' : Hp} {a : Addr} {vs : List V} (t : Ex H H') (h : SqT K H a vs) : SqT K H' a vs := t.tk.sqt h
theorem Ex.sql {K : PySem.W.Frag} {H H' : Hp} {a : Addr} {vs : List V} (t : Ex H H') (h : SqL K H a vs) : SqL K H' a vs := by
  rcases h with (h | ⟨o, h⟩) | h
  · exact .inl (.inl (t _ _ h))
  · exact .inl (.inr ⟨o, t _ _ h⟩)
  · exact .inr h

open Classical in
/-- H at P alone, and at what never changes -/
noncomputable def restr (H : Hp) (P : Addr → Prop) : Hp := fun a => if P a ∨ (∃ o, H a = some o ∧ stab o) then H a else none
theorem restr_ex {H : Hp} {P : Addr → Prop} : Ex (restr H P) H := fun a o h => by
  unfold restr at h
  split at h
  · exact h
  · cases h
theorem restr_at {H : Hp} {P : Addr → Prop} {a : Addr} (h : P a) : restr H P a = H a := by
  unfold restr
  rw [if_pos (.inl h)]
theorem restr_tk {H : Hp} {P : Addr → Prop} : TK H (restr H P) := fun a o h s => by
  unfold restr
  rw [if_pos (.inr ⟨o, h, s⟩)]
  exact h
theorem restr_mono {H H' : Hp} {P Q : Addr → Prop} (t : TK H H') (k : ∀ a o, P a → H a = some o → H' a = some o ∧ Q a) : Ex (restr H P) (restr H' Q) := fun a o h => by
  unfold restr at h
  split at h
  · rename_i c
    rcases c with c | ⟨u, e, s⟩
    · obtain ⟨e, q⟩ := k a o c h
      rw [restr_at q]
      exact e
    · rw [h] at e
      cases e
      exact restr_tk a o (t a o h s) s
  · cases h

section
variable {K : PySem.W.Frag} {H H' : Hp}
mutual
theorem RepR.mono (e : Ex H H') : ∀ {d : D} {v : V}, RepR K H d v → RepR K H' d v
  | .non, _, h => by unfold RepR at h ⊢; exact h
  | .bl _, _, h => by unfold RepR at h ⊢; exact h
  | .int _, _, h => by unfold RepR at h ⊢; exact h
  | .str _, _, h => by unfold RepR at h ⊢; exact h
  | .raw _, _, h => by unfold RepR at h ⊢; exact h
  | .tup l, _, h => by
    unfold RepR at h ⊢
    obtain ⟨a, vs, e1, e2, e3⟩ := h
    exact ⟨a, vs, e1, e.sqt e2, RepRs.mono e e3⟩
  | .lst l, _, h => by
    unfold RepR at h ⊢
    obtain ⟨a, vs, e1, e2, e3⟩ := h
    exact ⟨a, vs, e1, e _ _ e2, RepRs.mono e e3⟩
  | .fz l, _, h => by
    unfold RepR at h ⊢
    obtain ⟨a, vs, e1, e2, e3⟩ := h
    exact ⟨a, vs, e1, e.sql e2, RepRs.mono e e3⟩
  | .ins C ns l, _, h => by
    unfold RepR at h ⊢
    obtain ⟨a, dx, fs, e1, e2, e3, e4⟩ := h
    exact ⟨a, dx, fs, e1, e _ _ e2, e3, RepRs.mono e e4⟩
theorem RepRs.mono (e : Ex H H') : ∀ {ds : List D} {vs : List V}, RepRs K H ds vs → RepRs K H' ds vs
  | [], _, h => by unfold RepRs at h ⊢; exact h
  | d :: ds, _, h => by
    unfold RepRs at h ⊢
    obtain ⟨w, ws, e1, e2, e3⟩ := h
    exact ⟨w, ws, e1, RepR.mono e e2, RepRs.mono e e3⟩
end
mutual
theorem RepO.frame (t : TK H H') : ∀ {d : D} {v : V} {F : List Addr}, RepO K H d v F → (∀ a ∈ F, H' a = H a) → RepO K H' d v F
  | .non, _, _, h, _ => by unfold RepO at h ⊢; exact h
  | .bl _, _, _, h, _ => by unfold RepO at h ⊢; exact h
  | .int _, _, _, h, _ => by unfold RepO at h ⊢; exact h
  | .str _, _, _, h, _ => by unfold RepO at h ⊢; exact h
  | .raw _, _, _, h, _ => by unfold RepO at h ⊢; exact h
  | .tup l, _, _, h, k => by
    unfold RepO at h ⊢
    obtain ⟨a, vs, e1, e2, e3⟩ := h
    exact ⟨a, vs, e1, t.sqt e2, RepOs.frame t e3 k⟩
  | .lst l, _, _, h, k => by
    unfold RepO at h ⊢
    obtain ⟨a, vs, G, e1, e2, e3, e4⟩ := h
    subst e3
    exact ⟨a, vs, G, e1, (k a List.mem_cons_self).trans e2, rfl, RepOs.frame t e4 fun b hb => k b (List.mem_cons_of_mem _ hb)⟩
  | .fz l, _, _, h, k => by
    unfold RepO at h
    obtain ⟨_, _, _, _, _, z⟩ := h
    exact z.elim
  | .ins C ns l, _, _, h, k => by
    unfold RepO at h ⊢
    obtain ⟨a, dx, fs, G, e1, e2, e3, e4, e5, e6⟩ := h
    subst e5
    exact ⟨a, dx, fs, G, e1, (k a List.mem_cons_self).trans e2, (k dx (List.mem_cons_of_mem _ List.mem_cons_self)).trans e3, e4, rfl, RepOs.frame t e6 fun b hb => k b (List.mem_cons_of_mem _ (List.mem_cons_of_mem _ hb))⟩
theorem RepOs.frame (t : TK H H') : ∀ {ds : List D} {vs : List V} {F : List Addr}, RepOs K H ds vs F → (∀ a ∈ F, H' a = H a) → RepOs K H' ds vs F
  | [], _, _, h, _ => by unfold RepOs at h ⊢; exact h
  | d :: ds, _, _, h, k => by
    unfold RepOs at h ⊢
    obtain ⟨w, ws, F1, F2, e1, e2, e3, e4⟩ := h
    subst e2
    exact ⟨w, ws, F1, F2, e1, rfl, RepO.frame t e3 fun b hb => k b (List.mem_append_left _ hb), RepOs.frame t e4 fun b hb => k b (List.mem_append_right _ hb)⟩
end
mutual
theorem RepO.dom : ∀ {d : D} {v : V} {F : List Addr}, RepO K H d v F → ∀ a ∈ F, ∃ o, H a = some o ∧ ¬ stab o
  | .non, _, _, h, a, m => by unfold RepO at h; rw [h.2] at m; cases m
  | .bl _, _, _, h, a, m => by unfold RepO at h; rw [h.2] at m; cases m
  | .int _, _, _, h, a, m => by unfold RepO at h; rw [h.2] at m; cases m
  | .str _, _, _, h, a, m => by unfold RepO at h; rw [h.2] at m; cases m
  | .raw _, _, _, h, a, m => by unfold RepO at h; rw [h.2] at m; cases m
  | .tup l, _, _, h, a, m => by
    unfold RepO at h
    obtain ⟨_, vs, e1, e2, e3⟩ := h
    exact RepOs.dom e3 a m
  | .lst l, _, _, h, a, m => by
    unfold RepO at h
    obtain ⟨b, vs, G, e1, e2, e3, e4⟩ := h
    subst e3
    rcases List.mem_cons.mp m with rfl | m
    · exact ⟨_, e2, fun z => z⟩
    · exact RepOs.dom e4 a m
  | .fz l, _, _, h, a, m => by
    unfold RepO at h
    obtain ⟨_, _, _, _, _, z⟩ := h
    exact z.elim
  | .ins C ns l, _, _, h, a, m => by
    unfold RepO at h
    obtain ⟨b, dx, fs, G, e1, e2, e3, e4, e5, e6⟩ := h
    subst e5
    rcases List.mem_cons.mp m with rfl | m
    · exact ⟨_, e2, fun z => z⟩
    · rcases List.mem_cons.mp m with rfl | m
      · exact ⟨_, e3, fun z => z⟩
      · exact RepOs.dom e6 a m
theorem RepOs.dom : ∀ {ds : List D} {vs : List V} {F : List Addr}, RepOs K H ds vs F → ∀ a ∈ F, ∃ o, H a = some o ∧ ¬ stab o
  | [], _, _, h, a, m => by unfold RepOs at h; rw [h.2] at m; cases m
  | d :: ds, _, _, h, a, m => by
    unfold RepOs at h
    obtain ⟨w, ws, F1, F2, e1, e2, e3, e4⟩ := h
    subst e2
    rcases List.mem_append.mp m with m | m
    · exact RepO.dom e3 a m
    · exact RepOs.dom e4 a m
end
mutual
theorem RepO.toR : ∀ {d : D} {v : V} {F : List Addr} {P : Addr → Prop}, RepO K H d v F → (∀ a ∈ F, P a) → RepR K (restr H P) d v
  | .non, _, _, _, h, _ => by unfold RepO at h; unfold RepR; exact h.1
  | .bl _, _, _, _, h, _ => by unfold RepO at h; unfold RepR; exact h.1
  | .int _, _, _, _, h, _ => by unfold RepO at h; unfold RepR; exact h.1
  | .str _, _, _, _, h, _ => by unfold RepO at h; unfold RepR; exact h.1
  | .raw _, _, _, _, h, _ => by unfold RepO at h; unfold RepR; exact h.1
  | .tup l, _, _, _, h, k => by
    unfold RepO at h
    unfold RepR
    obtain ⟨a, vs, e1, e2, e3⟩ := h
    exact ⟨a, vs, e1, restr_tk.sqt e2, RepOs.toR e3 k⟩
  | .lst l, _, _, _, h, k => by
    unfold RepO at h
    unfold RepR
    obtain ⟨a, vs, G, e1, e2, e3, e4⟩ := h
    subst e3
    exact ⟨a, vs, e1, (restr_at (k a List.mem_cons_self)).trans e2, RepOs.toR e4 fun b hb => k b (List.mem_cons_of_mem _ hb)⟩
  | .fz l, _, _, _, h, k => by
    unfold RepO at h
    obtain ⟨_, _, _, _, _, z⟩ := h
    exact z.elim
  | .ins C ns l, _, _, _, h, k => by
    unfold RepO at h
    unfold RepR
    obtain ⟨a, dx, fs, G, e1, e2, e3, e4, e5, e6⟩ := h
    subst e5
    exact ⟨a, dx, fs, e1, (restr_at (k a List.mem_cons_self)).trans e2, e4, RepOs.toR e6 fun b hb => k b (List.mem_cons_of_mem _ (List.mem_cons_of_mem _ hb))⟩
theorem RepOs.toR : ∀ {ds : List D} {vs : List V} {F : List Addr} {P : Addr → Prop}, RepOs K H ds vs F → (∀ a ∈ F, P a) → RepRs K (restr H P) ds vs
  | [], _, _, _, h, _ => by unfold RepOs at h; unfold RepRs; exact h.1
  | d :: ds, _, _, _, h, k => by
    unfold RepOs at h
    unfold RepRs
    obtain ⟨w, ws, F1, F2, e1, e2, e3, e4⟩ := h
    subst e2
    exact ⟨w, ws, e1, RepO.toR e3 fun b hb => k b (List.mem_append_left _ hb), RepOs.toR e4 fun b hb => k b (List.mem_append_right _ hb)⟩
end
theorem RepO.rep {d : D} {v : V} {F : List Addr} (h : RepO K H d v F) : RepR K H d v := (h.toR (P := fun _ => True) fun _ _ => trivial).mono restr_ex
theorem RepOs.reps {d : List D} {v : List V} {F : List Addr} (h : RepOs K H d v F) : RepRs K H d v := (h.toR (P := fun _ => True) fun _ _ => trivial).mono restr_ex
mutual
theorem RepO.nil_of : ∀ {d : D} {v : V} {F : List Addr}, RepO K H d v F → d.flat = true → F = []
  | .non, _, _, h, _ => by unfold RepO at h; exact h.2
  | .bl _, _, _, h, _ => by unfold RepO at h; exact h.2
  | .int _, _, _, h, _ => by unfold RepO at h; exact h.2
  | .str _, _, _, h, _ => by unfold RepO at h; exact h.2
  | .raw _, _, _, h, _ => by unfold RepO at h; exact h.2
  | .tup l, _, _, h, z => by
    unfold RepO at h
    unfold D.flat at z
    obtain ⟨_, vs, e1, e2, e3⟩ := h
    exact RepOs.nil_of e3 z
  | .lst l, _, _, h, z => by unfold D.flat at z; cases z
  | .fz l, _, _, h, z => by unfold D.flat at z; cases z
  | .ins C ns l, _, _, h, z => by unfold D.flat at z; cases z
theorem RepOs.nil_of : ∀ {ds : List D} {vs : List V} {F : List Addr}, RepOs K H ds vs F → D.flats ds = true → F = []
  | [], _, _, h, _ => by unfold RepOs at h; exact h.2
  | d :: ds, _, _, h, z => by
    unfold RepOs at h
    unfold D.flats at z
    rw [Bool.and_eq_true] at z
    obtain ⟨w, ws, F1, F2, e1, e2, e3, e4⟩ := h
    rw [e2, RepO.nil_of e3 z.1, RepOs.nil_of e4 z.2]
    rfl
end
mutual
theorem RepR.flatO : ∀ {d : D} {v : V}, RepR K H d v → d.flat = true → RepO K H d v []
  | .non, _, h, _ => by unfold RepR at h; unfold RepO; exact ⟨h, rfl⟩
  | .bl _, _, h, _ => by unfold RepR at h; unfold RepO; exact ⟨h, rfl⟩
  | .int _, _, h, _ => by unfold RepR at h; unfold RepO; exact ⟨h, rfl⟩
  | .str _, _, h, _ => by unfold RepR at h; unfold RepO; exact ⟨h, rfl⟩
  | .raw _, _, h, _ => by unfold RepR at h; unfold RepO; exact ⟨h, rfl⟩
  | .tup l, _, h, z => by
    unfold RepR at h
    unfold D.flat at z
    unfold RepO
    obtain ⟨a, vs, e1, e2, e3⟩ := h
    exact ⟨a, vs, e1, e2, RepRs.flatO e3 z⟩
  | .lst l, _, h, z => by unfold D.flat at z; cases z
  | .fz l, _, h, z => by unfold D.flat at z; cases z
  | .ins C ns l, _, h, z => by unfold D.flat at z; cases z
theorem RepRs.flatO : ∀ {ds : List D} {vs : List V}, RepRs K H ds vs → D.flats ds = true → RepOs K H ds vs []
  | [], _, h, _ => by unfold RepRs at h; unfold RepOs; exact ⟨h, rfl⟩
  | d :: ds, _, h, z => by
    unfold RepRs at h
    unfold D.flats at z
    rw [Bool.and_eq_true] at z
    unfold RepOs
    obtain ⟨w, ws, e1, e2, e3⟩ := h
    exact ⟨w, ws, [], [], e1, rfl, RepR.flatO e2 z.1, RepRs.flatO e3 z.2⟩
end
theorem RepRs.length : ∀ {ds : List D} {vs : List V}, RepRs K H ds vs → vs.length = ds.length
  | [], _, h => by unfold RepRs at h; subst h; rfl
  | d :: ds, _, h => by
    unfold RepRs at h
    obtain ⟨w, ws, e1, _, e3⟩ := h
    rw [e1, List.length_cons, List.length_cons, RepRs.length e3]
theorem RepRs.get : ∀ {ds : List D} {vs : List V} {i : Nat} {d : D}, RepRs K H ds vs → ds[i]? = some d → ∃ w, vs[i]? = some w ∧ RepR K H d w
  | [], _, i, _, h, e => by simp at e
  | d :: ds, _, 0, d', h, e => by
    unfold RepRs at h
    obtain ⟨w, ws, e1, e2, e3⟩ := h
    subst e1
    have z : d = d' := by simpa using e
    subst z
    exact ⟨w, rfl, e2⟩
  | d :: ds, _, i + 1, d', h, e => by
    unfold RepRs at h
    obtain ⟨w, ws, e1, e2, e3⟩ := h
    subst e1
    obtain ⟨u, h1, h2⟩ := RepRs.get (i := i) e3 (by simpa using e)
    exact ⟨u, by simpa using h1, h2⟩
theorem RepRs.append : ∀ {ds es : List D} {vs ws : List V}, RepRs K H ds vs → RepRs K H es ws → RepRs K H (ds ++ es) (vs ++ ws)
  | [], _, _, _, h, k => by unfold RepRs at h; rw [h]; exact k
  | d :: ds, _, _, _, h, k => by
    unfold RepRs at h
    obtain ⟨w, ws, e1, e2, e3⟩ := h
    subst e1
    rw [List.cons_append, List.cons_append]
    unfold RepRs
    exact ⟨w, _, rfl, e2, RepRs.append e3 k⟩
theorem RepOs.append : ∀ {ds es : List D} {vs ws : List V} {F G : List Addr}, RepOs K H ds vs F → RepOs K H es ws G → RepOs K H (ds ++ es) (vs ++ ws) (F ++ G)
  | [], _, _, _, _, _, h, k => by unfold RepOs at h; rw [h.1, h.2]; exact k
  | d :: ds, _, _, _, _, _, h, k => by
    unfold RepOs at h
    obtain ⟨w, ws, F1, F2, e1, e2, e3, e4⟩ := h
    subst e1 e2
    rw [List.cons_append, List.cons_append, List.append_assoc]
    unfold RepOs
    exact ⟨w, _, F1, _, rfl, rfl, e3, RepOs.append e4 k⟩
theorem RepOs.one {d : D} {v : V} {F : List Addr} (h : RepO K H d v F) : RepOs K H [d] [v] F := by
  unfold RepOs
  exact ⟨v, [], F, [], rfl, (List.append_nil F).symm, h, by unfold RepOs; exact ⟨rfl, rfl⟩⟩
end
end DL
/-! The data layer, part 2: what is held (slots and values on the way). -/
namespace DL
open PySem L2

/-- who owns lists: the variable in slot i, the k-th value on the way (from the bottom) -/
inductive Own where
  | v (i : Nat) | t (k : Nat)
  deriving DecidableEq
/-- what a slot holds: nothing that is told, owned data, data from outside, data that another one owns -/
inductive Slot where
  | no | own (d : D) | par (d : D) | view (o : Own) (d : D)

def ownOk (m : Nat → Prop) : Own → Prop
  | .v _ => True
  | .t k => m k
/-- the places m lie below n -/
def Low (m : Nat → Prop) (n : Nat) : Prop := ∀ k, m k → k < n
theorem Low.up {m : Nat → Prop} {n : Nat} (h : Low m n) : Low m (n + 1) := fun k q => Nat.lt_succ_of_lt (h k q)
theorem Low.self {n : Nat} : Low (fun k => k < n) n := fun _ q => q
theorem Low.add {m : Nat → Prop} {n j : Nat} (h : Low m n) : Low m (n + j) := fun k q => Nat.lt_of_lt_of_le (h k q) (Nat.le_add_right _ _)
def SlotOk (K : PySem.W.Frag) (B H : Hp) (fp : Own → List Addr) (m : Nat → Prop) (o : Own) (x : Option V) : Slot → Prop
  | .no => True
  | .own d => ∃ v, x = some v ∧ RepO K H d v (fp o)
  | .par d => ∃ v, x = some v ∧ RepR K B d v
  | .view o' d => ownOk m o' ∧ ∃ v, x = some v ∧ RepR K (restr H (fun a => a ∈ fp o' ∨ (B a).isSome = true)) d v

structure HeldF (K : PySem.W.Frag) (m : Nat → Prop) (B H : Hp) (fp : Own → List Addr) (σ : List (Option V)) (ss : List Slot) (tv : List V) (ts : List Slot) : Prop where
  base : Ex B H
  slen : σ.length = ss.length
  tlen : tv.length = ts.length
  mle : Low m ts.length
  var : ∀ i s, ss[i]? = some s → SlotOk K B H fp m (.v i) (σ[i]?.join) s
  tmp : ∀ k s, ts.reverse[k]? = some s → SlotOk K B H fp m (.t k) (tv.reverse[k]?) s
  disj : ∀ o o' a, a ∈ fp o → a ∈ fp o' → o = o'
  nod : ∀ o, (fp o).Nodup
  out : ∀ o a, a ∈ fp o → B a = none
  dom : ∀ o a, a ∈ fp o → ∃ u, H a = some u ∧ ¬ stab u
def Held (K : PySem.W.Frag) (m : Nat → Prop) (B H : Hp) (σ : List (Option V)) (ss : List Slot) (tv : List V) (ts : List Slot) : Prop := ∃ fp, HeldF K m B H fp σ ss tv ts

/-- a view of o is gone -/
def kill (o : Own) : Slot → Slot
  | .view o' d => if o' = o then .no else .view o' d
  | s => s
def noView (o : Own) : List Slot → Bool
  | [] => true
  | .view o' _ :: r => decide (o' ≠ o) && noView o r
  | _ :: r => noView o r
/-- a view of a value on the way, the n-th or a later one, is gone -/
def killT (n : Nat) : Slot → Slot
  | .view (.t k) d => if k < n then .view (.t k) d else .no
  | s => s

def fupd (fp : Own → List Addr) (o : Own) (F : List Addr) : Own → List Addr := fun o' => if o' = o then F else fp o'
theorem fupd_same {fp : Own → List Addr} {o : Own} {F : List Addr} : fupd fp o F o = F := if_pos rfl
theorem fupd_ne {fp : Own → List Addr} {o o' : Own} {F : List Addr} (h : o' ≠ o) : fupd fp o F o' = fp o' := if_neg h
theorem fupd_vt {fp : Own → List Addr} {k i : Nat} {F : List Addr} : fupd fp (.t k) F (.v i) = fp (.v i) := fupd_ne (fun z => Own.noConfusion z)
theorem fupd_tv {fp : Own → List Addr} {k i : Nat} {F : List Addr} : fupd fp (.v i) F (.t k) = fp (.t k) := fupd_ne (fun z => Own.noConfusion z)
theorem fupd_vv {fp : Own → List Addr} {j i : Nat} {F : List Addr} (h : j ≠ i) : fupd fp (.v i) F (.v j) = fp (.v j) := fupd_ne (fun z => h (Own.v.inj z))
theorem fupd_tt {fp : Own → List Addr} {j i : Nat} {F : List Addr} (h : j ≠ i) : fupd fp (.t i) F (.t j) = fp (.t j) := fupd_ne (fun z => h (Own.t.inj z))
/-- what a slot's value brings along -/
def brings : Slot → List Addr → List Addr
  | .own _, F => F
  | _, _ => []
section
variable {K : PySem.W.Frag} {B H H' : Hp} {fp fp' : Own → List Addr} {m m' : Nat → Prop} {o o' : Own} {x : Option V} {s r : Slot} {σ : List (Option V)} {ss ts : List Slot} {tv : List V} {v w : V} {d d' : D} {F F' : List Addr}
theorem SlotOk.congr (h : SlotOk K B H fp m o x s) (e : fp' o = fp o) (k : ∀ o', ownOk m o' → fp' o' = fp o') : SlotOk K B H fp' m o x s := by
  cases s with
  | no => trivial
  | own d => obtain ⟨v, e1, e2⟩ := h; exact ⟨v, e1, by rw [e]; exact e2⟩
  | par d => exact h
  | view o' d => obtain ⟨z, v, e1, e2⟩ := h; exact ⟨z, v, e1, by rw [k o' z]; exact e2⟩
/-- nothing owned: the owner's own footprint is not asked -/
theorem SlotOk.congrV (h : SlotOk K B H fp m o x s) (n : ∀ d, s ≠ .own d) (k : ∀ o', ownOk m o' → (∃ d, s = .view o' d) → fp' o' = fp o') {o2 : Own} : SlotOk K B H fp' m o2 x s := by
  cases s with
  | no => trivial
  | own d => exact absurd rfl (n d)
  | par d => exact h
  | view o' d => obtain ⟨z, v, e1, e2⟩ := h; exact ⟨z, v, e1, by rw [k o' z ⟨d, rfl⟩]; exact e2⟩
theorem SlotOk.heap (h : SlotOk K B H fp m o x s) (tk : TK H H') (kb : Ex B H') (hb : Ex B H) (k1 : ∀ a ∈ fp o, H' a = H a) (k2 : ∀ o' d, s = .view o' d → ∀ a ∈ fp o', H' a = H a) : SlotOk K B H' fp m o x s := by
  cases s with
  | no => trivial
  | own d => obtain ⟨v, e1, e2⟩ := h; exact ⟨v, e1, e2.frame tk k1⟩
  | par d => exact h
  | view o' d =>
    obtain ⟨z, v, e1, e2⟩ := h
    refine ⟨z, v, e1, e2.mono (restr_mono tk fun a u p e => ⟨?_, p⟩)⟩
    rcases p with p | p
    · rw [k2 o' d rfl a p]; exact e
    · cases q : B a with
      | none => rw [q] at p; cases p
      | some y =>
        have e3 := hb a y q
        rw [e] at e3
        cases e3
        exact kb a _ q
theorem SlotOk.more (h : SlotOk K B H fp m o x s) (e : ∀ k, m k → m' k) : SlotOk K B H fp m' o x s := by
  cases s with
  | no => trivial
  | own d => exact h
  | par d => exact h
  | view o' d =>
    obtain ⟨z, q⟩ := h
    refine ⟨?_, q⟩
    cases o' with
    | v i => trivial
    | t k => exact e k z
/-- what a slot lets be read -/
theorem SlotOk.read (h : SlotOk K B H fp m o x s) (b : Ex B H) (e : s = .own d ∨ s = .par d ∨ ∃ o', s = .view o' d) : ∃ v, x = some v ∧ RepR K H d v := by
  rcases e with rfl | rfl | ⟨o', rfl⟩
  · obtain ⟨v, e1, e2⟩ := h; exact ⟨v, e1, e2.rep⟩
  · obtain ⟨v, e1, e2⟩ := h; exact ⟨v, e1, e2.mono b⟩
  · obtain ⟨_, v, e1, e2⟩ := h; exact ⟨v, e1, e2.mono restr_ex⟩

theorem HeldF.heap (h : HeldF K m B H fp σ ss tv ts) (tk : TK H H') (kb : Ex B H') (k : ∀ o a, a ∈ fp o → H' a = H a) : HeldF K m B H' fp σ ss tv ts :=
  ⟨kb, h.slen, h.tlen, h.mle, fun i s e => (h.var i s e).heap tk kb h.base (k _) fun _ _ _ => k _, fun i s e => (h.tmp i s e).heap tk kb h.base (k _) fun _ _ _ => k _, h.disj, h.nod, h.out, fun o a e => by
    obtain ⟨u, q, n⟩ := h.dom o a e
    exact ⟨u, (k o a e).trans q, n⟩⟩
theorem HeldF.ex (h : HeldF K m B H fp σ ss tv ts) (e : Ex H H') : HeldF K m B H' fp σ ss tv ts := h.heap e.tk (h.base.trans e) fun o a q => by
  obtain ⟨u, q, _⟩ := h.dom o a q
  rw [e a u q, q]
theorem Held.ex (h : Held K m B H σ ss tv ts) (e : Ex H H') : Held K m B H' σ ss tv ts := let ⟨fp, h⟩ := h; ⟨fp, h.ex e⟩

theorem rev_push {α : Type} {l : List α} {y x : α} {k : Nat} (e : (y :: l).reverse[k]? = some x) : (k < l.length ∧ l.reverse[k]? = some x) ∨ (k = l.length ∧ x = y) := by
  rw [List.reverse_cons] at e
  by_cases hk : k < l.length
  · rw [List.getElem?_append_left (by simpa using hk)] at e
    exact .inl ⟨hk, e⟩
  · rw [List.getElem?_append_right (by simpa using Nat.le_of_not_lt hk)] at e
    have z := List.getElem?_eq_some_iff.mp e
    obtain ⟨z1, z2⟩ := z
    simp only [List.length_reverse, List.length_singleton] at z1
    have z3 : k = l.length := by omega
    refine .inr ⟨z3, ?_⟩
    subst z3
    simpa using z2.symm
theorem rev_old {α : Type} {l : List α} {y : α} {k : Nat} (hk : k < l.length) : (y :: l).reverse[k]? = l.reverse[k]? := by
  rw [List.reverse_cons, List.getElem?_append_left (by simpa using hk)]
theorem rev_top {α : Type} {l : List α} {y : α} : (y :: l).reverse[l.length]? = some y := by
  rw [List.reverse_cons, List.getElem?_append_right (by simp)]
  simp

/-- a value on the way, owned -/
theorem HeldF.push (h : HeldF K m B H fp σ ss tv ts) (q : RepO K H d v F) (nd : F.Nodup) (dj : ∀ a ∈ F, ∀ o, o ≠ .t ts.length → a ∉ fp o) (ot : ∀ a ∈ F, B a = none) :
    HeldF K m B H (fupd fp (.t ts.length) F) σ ss (v :: tv) (.own d :: ts) := by
  have hm : ∀ o, ownOk m o → o ≠ .t ts.length := fun o z e => by
    subst e
    exact absurd (h.mle _ z) (Nat.lt_irrefl _)
  refine ⟨h.base, h.slen, by simp [h.tlen], h.mle.up, fun i s e => ?_, fun k s e => ?_, fun o o' a => ?_, fun o => ?_, fun o a => ?_, fun o a => ?_⟩
  · refine (h.var i s e).congr ?_ fun o' z => ?_
    · rw [fupd_vt]
    · rw [fupd_ne (hm o' z)]
  · rcases rev_push e with ⟨hk, e0⟩ | ⟨hk, e0⟩
    · have z := h.tmp k s e0
      rw [rev_old (by rw [h.tlen]; exact hk)]
      refine z.congr ?_ fun o' z => ?_
      · rw [fupd_tt (by omega)]
      · rw [fupd_ne (hm o' z)]
    · clear e
      subst hk e0
      refine ⟨v, ?_, ?_⟩
      · rw [← h.tlen]; exact rev_top
      · rw [fupd_same]; exact q
  · show a ∈ (if o = .t ts.length then F else fp o) → a ∈ (if o' = .t ts.length then F else fp o') → o = o'
    by_cases h1 : o = .t ts.length
    · by_cases h2 : o' = .t ts.length
      · intro _ _; rw [h1, h2]
      · rw [if_pos h1, if_neg h2]; exact fun q1 q2 => absurd q2 (dj a q1 o' h2)
    · by_cases h2 : o' = .t ts.length
      · rw [if_neg h1, if_pos h2]; exact fun q1 q2 => absurd q1 (dj a q2 o h1)
      · rw [if_neg h1, if_neg h2]; exact h.disj o o' a
  · show (if o = .t ts.length then F else fp o).Nodup
    split
    · exact nd
    · exact h.nod o
  · show a ∈ (if o = .t ts.length then F else fp o) → _
    split
    · exact ot a
    · exact h.out o a
  · show a ∈ (if o = .t ts.length then F else fp o) → _
    split
    · exact q.dom a
    · exact h.dom o a
/-- .. new in H' -/
theorem HeldF.fresh (h : HeldF K m B H fp σ ss tv ts) (e : Ex H H') (q : RepO K H' d v F) (nd : F.Nodup) (nw : ∀ a ∈ F, H a = none) :
    HeldF K m B H' (fupd fp (.t ts.length) F) σ ss (v :: tv) (.own d :: ts) :=
  (h.ex e).push q nd (fun a ha o _ z => by
    obtain ⟨u, q, _⟩ := h.dom o a z
    rw [nw a ha] at q
    cases q) fun a ha => by
      cases z : B a with
      | none => rfl
      | some u =>
        have q := h.base a u z
        rw [nw a ha] at q
        cases q
/-- a value on the way that owns nothing -/
theorem HeldF.pushV (h : HeldF K m B H fp σ ss tv ts) (n : ∀ d, s ≠ .own d) (q : SlotOk K B H fp m o (some v) s) :
    HeldF K m B H (fupd fp (.t ts.length) []) σ ss (v :: tv) (s :: ts) := by
  have hm : ∀ o, ownOk m o → o ≠ .t ts.length := fun o z e => by
    subst e
    exact absurd (h.mle _ z) (Nat.lt_irrefl _)
  refine ⟨h.base, h.slen, by simp [h.tlen], h.mle.up, fun i s e => ?_, fun k s' e => ?_, fun o o' a => ?_, fun o => ?_, fun o a => ?_, fun o a => ?_⟩
  · refine (h.var i s e).congr ?_ fun o' z => ?_
    · rw [fupd_vt]
    · rw [fupd_ne (hm o' z)]
  · rcases rev_push e with ⟨hk, e0⟩ | ⟨hk, e0⟩
    · have z := h.tmp k s' e0
      rw [rev_old (by rw [h.tlen]; exact hk)]
      refine z.congr ?_ fun o' z => ?_
      · rw [fupd_tt (by omega)]
      · rw [fupd_ne (hm o' z)]
    · clear e
      subst hk e0
      rw [← h.tlen, rev_top]
      exact q.congrV n fun o' z _ => by rw [fupd_ne (by rw [h.tlen]; exact hm o' z)]
  · show a ∈ (if o = .t ts.length then [] else fp o) → a ∈ (if o' = .t ts.length then [] else fp o') → o = o'
    by_cases h1 : o = .t ts.length
    · rw [if_pos h1]; exact fun z => nomatch z
    · by_cases h2 : o' = .t ts.length
      · rw [if_pos h2]; exact fun _ z => nomatch z
      · rw [if_neg h1, if_neg h2]; exact h.disj o o' a
  · show (if o = .t ts.length then [] else fp o).Nodup
    split
    · exact List.nodup_nil
    · exact h.nod o
  · show a ∈ (if o = .t ts.length then [] else fp o) → _
    split
    · exact fun z => nomatch z
    · exact h.out o a
  · show a ∈ (if o = .t ts.length then [] else fp o) → _
    split
    · exact fun z => nomatch z
    · exact h.dom o a
theorem HeldF.pop (h : HeldF K m B H fp σ ss (v :: tv) (s :: ts)) (hm : Low m ts.length) : HeldF K m B H fp σ ss tv ts := by
  have hl : tv.length = ts.length := by have := h.tlen; simpa using this
  refine ⟨h.base, h.slen, hl, hm, h.var, fun k s' e => ?_, h.disj, h.nod, h.out, h.dom⟩
  have hk : k < ts.length := by
    have z := (List.getElem?_eq_some_iff.mp e).1
    simpa using z
  have z := h.tmp k s' (by rw [rev_old hk]; exact e)
  rw [rev_old (by rw [hl]; exact hk)] at z
  exact z
/-- the value on the way at the top -/
theorem HeldF.top (h : HeldF K m B H fp σ ss (v :: tv) (s :: ts)) : SlotOk K B H fp m (.t ts.length) (some v) s := by
  have hl : tv.length = ts.length := by have := h.tlen; simpa using this
  have z := h.tmp ts.length s rev_top
  rw [← hl, rev_top, hl] at z
  exact z
theorem Held.pop (h : Held K m B H σ ss (v :: tv) (s :: ts)) (hm : Low m ts.length) : Held K m B H σ ss tv ts := let ⟨fp, h⟩ := h; ⟨fp, h.pop hm⟩
/-- flat data on the way: any value that stands for it -/
theorem HeldF.pushF (h : HeldF K m B H fp σ ss tv ts) (q : RepO K H d v []) : HeldF K m B H (fupd fp (.t ts.length) []) σ ss (v :: tv) (.own d :: ts) :=
  h.push q List.nodup_nil (fun _ z => nomatch z) fun _ z => nomatch z
theorem Held.pushF (h : Held K m B H σ ss tv ts) (q : RepO K H d v []) : Held K m B H σ ss (v :: tv) (.own d :: ts) := let ⟨fp, h⟩ := h; ⟨_, h.pushF q⟩
theorem Held.fresh (h : Held K m B H σ ss tv ts) (e : Ex H H') (q : RepO K H' d v F) (nd : F.Nodup) (nw : ∀ a ∈ F, H a = none) : Held K m B H' σ ss (v :: tv) (.own d :: ts) := let ⟨fp, h⟩ := h; ⟨_, h.fresh e q nd nw⟩
theorem Held.pushV (h : Held K m B H σ ss tv ts) (n : ∀ d, s ≠ .own d) (q : ∀ fp, HeldF K m B H fp σ ss tv ts → ∃ o, SlotOk K B H fp m o (some v) s) : Held K m B H σ ss (v :: tv) (s :: ts) := let ⟨fp, h⟩ := h; let ⟨o, q⟩ := q fp h; ⟨_, h.pushV n q⟩

theorem noView_mem {o : Own} : ∀ {l : List Slot}, noView o l = true → ∀ s ∈ l, ∀ d, s ≠ .view o d
  | [], _, _, z, _ => nomatch z
  | .view o' d' :: r, h, s, z, d => by
    unfold noView at h
    rw [Bool.and_eq_true, decide_eq_true_eq] at h
    rcases List.mem_cons.mp z with rfl | z
    · intro q; injection q with q _; exact h.1 q
    · exact noView_mem h.2 s z d
  | .no :: r, h, s, z, d => by
    unfold noView at h
    rcases List.mem_cons.mp z with rfl | z
    · intro q; cases q
    · exact noView_mem h s z d
  | .own _ :: r, h, s, z, d => by
    unfold noView at h
    rcases List.mem_cons.mp z with rfl | z
    · intro q; cases q
    · exact noView_mem h s z d
  | .par _ :: r, h, s, z, d => by
    unfold noView at h
    rcases List.mem_cons.mp z with rfl | z
    · intro q; cases q
    · exact noView_mem h s z d
theorem kill_v {o o' : Own} {d : D} : kill o (.view o' d) = if o' = o then .no else .view o' d := rfl
theorem killT_t {n k : Nat} {d : D} : killT n (.view (.t k) d) = if k < n then .view (.t k) d else .no := rfl
theorem kill_view {o o' : Own} {s : Slot} {d : D} (e : kill o s = .view o' d) : s = .view o' d ∧ o' ≠ o := by
  cases s with
  | no => cases e
  | own _ => cases e
  | par _ => cases e
  | view o2 d2 =>
    rw [kill_v] at e
    split at e
    · cases e
    · rename_i n
      injection e with e1 e2
      subst e1 e2
      exact ⟨rfl, n⟩
theorem SlotOk.kill (h : SlotOk K B H fp m o x s) (o' : Own) : SlotOk K B H fp m o x (DL.kill o' s) := by
  cases s with
  | no => trivial
  | own _ => exact h
  | par _ => exact h
  | view o2 d2 =>
    rw [kill_v]
    split
    · trivial
    · exact h
theorem kill_own {o : Own} {s : Slot} {d : D} (e : kill o s = .own d) : s = .own d := by
  cases s with
  | no => cases e
  | own _ => exact e
  | par _ => cases e
  | view o2 d2 =>
    rw [kill_v] at e
    split at e <;> cases e

/-- the owner ow gives its lists away (they are F' now, of ow' = new data); views of ow must be gone. Both at once: slot i is set to r -/
theorem HeldF.assign (h : HeldF K m B H fp σ ss (v :: tv) (r :: ts)) (hm : Low m ts.length) {i : Nat} (hi : i < ss.length) (ht : noView (.v i) ts = true) (hr : ∀ d, r ≠ .view (.v i) d) :
    HeldF K m B H (fupd (fupd fp (.t ts.length) []) (.v i) (brings r (fp (.t ts.length)))) (σ.set i (some v)) ((ss.map (kill (.v i))).set i r) tv ts := by
  have hl : tv.length = ts.length := by have := h.tlen; simpa using this
  have hmt : ∀ o, ownOk m o → o ≠ .t ts.length := fun o z e => by
    subst e
    exact absurd (hm _ z) (Nat.lt_irrefl _)
  have sub : ∀ o a, a ∈ (if o = Own.v i then brings r (fp (.t ts.length)) else if o = Own.t ts.length then [] else fp o) → (o = .v i ∧ a ∈ fp (.t ts.length)) ∨ (o ≠ .v i ∧ o ≠ .t ts.length ∧ a ∈ fp o) := fun o a => by
    by_cases h1 : o = .v i
    · rw [if_pos h1]
      intro q
      refine .inl ⟨h1, ?_⟩
      cases r with
      | own d => exact q
      | no => exact nomatch q
      | par d => exact nomatch q
      | view o d => exact nomatch q
    · rw [if_neg h1]
      by_cases h2 : o = .t ts.length
      · rw [if_pos h2]; exact fun z => nomatch z
      · rw [if_neg h2]; exact fun q => .inr ⟨h1, h2, q⟩
  refine ⟨h.base, by simpa using h.slen, hl, hm, fun j s e => ?_, fun k s e => ?_, fun o o' a q1 q2 => ?_, fun o => ?_, fun o a q => ?_, fun o a q => ?_⟩
  · by_cases hj : j = i
    · subst hj
      rw [List.getElem?_set_self (by simpa using hi)] at e
      cases e
      have z := h.top
      have e1 : ((σ.set j (some v))[j]?).join = some v := by
        rw [List.getElem?_set_self (by rw [h.slen]; exact hi)]; rfl
      rw [e1]
      cases r with
      | no => trivial
      | own d =>
        obtain ⟨w, e2, e3⟩ := z
        refine ⟨w, e2, ?_⟩
        rw [fupd_same]
        exact e3
      | par d => exact z
      | view o' d =>
        obtain ⟨z1, w, e2, e3⟩ := z
        refine ⟨z1, w, e2, ?_⟩
        have n1 : o' ≠ .v j := fun z => hr d (by rw [z])
        rw [fupd_ne n1, fupd_ne (hmt o' z1)]
        exact e3
    · rw [List.getElem?_set_ne (Ne.symm hj), List.getElem?_map] at e
      rw [List.getElem?_set_ne (Ne.symm hj)]
      cases e1 : ss[j]? with
      | none => rw [e1] at e; cases e
      | some s1 =>
        rw [e1] at e
        have e2 : kill (.v i) s1 = s := Option.some.inj e
        have z := (h.var j s1 e1).kill (.v i)
        rw [e2] at z
        cases s with
        | no => trivial
        | par d => exact z
        | own d =>
          obtain ⟨w, e3, e4⟩ := z
          refine ⟨w, e3, ?_⟩
          rw [fupd_vv hj, fupd_vt]
          exact e4
        | view o' d =>
          obtain ⟨z1, w, e3, e4⟩ := z
          refine ⟨z1, w, e3, ?_⟩
          rw [fupd_ne (kill_view e2).2, fupd_ne (hmt o' z1)]
          exact e4
  · have hk : k < ts.length := by
      have z := (List.getElem?_eq_some_iff.mp e).1
      simpa using z
    have z := (h.pop hm).tmp k s e
    have ms : s ∈ ts := List.mem_reverse.mp (List.mem_of_getElem? e)
    cases s with
    | no => trivial
    | par d => exact z
    | own d =>
      obtain ⟨w, e3, e4⟩ := z
      refine ⟨w, e3, ?_⟩
      rw [fupd_tv, fupd_tt (by omega)]
      exact e4
    | view o' d =>
      obtain ⟨z1, w, e3, e4⟩ := z
      refine ⟨z1, w, e3, ?_⟩
      have n1 : o' ≠ .v i := fun z => noView_mem ht _ ms d (by rw [z])
      rw [fupd_ne n1, fupd_ne (hmt o' z1)]
      exact e4
  · rcases sub o a q1 with ⟨e1, p1⟩ | ⟨e1, e2, p1⟩
    · rcases sub o' a q2 with ⟨e3, p2⟩ | ⟨e3, e4, p2⟩
      · rw [e1, e3]
      · exact absurd (h.disj _ _ a p1 p2).symm e4
    · rcases sub o' a q2 with ⟨e3, p2⟩ | ⟨e3, e4, p2⟩
      · exact absurd (h.disj _ _ a p1 p2) e2
      · exact h.disj o o' a p1 p2
  · show (if o = Own.v i then brings r (fp (.t ts.length)) else if o = Own.t ts.length then [] else fp o).Nodup
    split
    · cases r with
      | own d => exact h.nod _
      | no => exact List.nodup_nil
      | par d => exact List.nodup_nil
      | view o d => exact List.nodup_nil
    · split
      · exact List.nodup_nil
      · exact h.nod o
  · rcases sub o a q with ⟨_, p⟩ | ⟨_, _, p⟩
    · exact h.out _ a p
    · exact h.out _ a p
  · rcases sub o a q with ⟨_, p⟩ | ⟨_, _, p⟩
    · exact h.dom _ a p
    · exact h.dom _ a p
theorem Held.assign (h : Held K m B H σ ss (v :: tv) (r :: ts)) (hm : Low m ts.length) {i : Nat} (hi : i < ss.length) (ht : noView (.v i) ts = true) (hr : ∀ d, r ≠ .view (.v i) d) :
    Held K m B H (σ.set i (some v)) ((ss.map (kill (.v i))).set i r) tv ts := let ⟨fp, h⟩ := h; ⟨_, h.assign hm hi ht hr⟩

/-- the lists of slot i are changed: new data of its own, out of its own lists, or of nobody's -/
theorem HeldF.change (h : HeldF K m B H fp σ ss tv ts) {i : Nat} (hx : (σ[i]?).join = some v) (hi : i < ss.length) (tk : TK H H')
    (keep : ∀ a o, a ∉ fp (.v i) → H a = some o → H' a = some o) (nw : RepO K H' d' v F') (nd : F'.Nodup) (dj : ∀ a ∈ F', a ∈ fp (.v i) ∨ ((∀ o, a ∉ fp o) ∧ B a = none)) (ht : noView (.v i) ts = true) :
    HeldF K m B H' (fupd fp (.v i) F') σ ((ss.map (kill (.v i))).set i (.own d')) tv ts := by
  have kb : Ex B H' := fun a u e => by
    refine keep a u (fun z => ?_) (h.base a u e)
    rw [h.out _ a z] at e
    cases e
  have kk : ∀ o, o ≠ .v i → ∀ a ∈ fp o, H' a = H a := fun o n a q => by
    obtain ⟨u, e, _⟩ := h.dom o a q
    rw [e]
    exact keep a u (fun z => n (h.disj _ _ a q z)) e
  have ob : ∀ a ∈ F', B a = none := fun a q => by
    rcases dj a q with z | ⟨_, z⟩
    · exact h.out _ a z
    · exact z
  have dd : ∀ o, o ≠ .v i → ∀ a ∈ F', a ∉ fp o := fun o n1 a q z => by
    rcases dj a q with p | ⟨p, _⟩
    · exact n1 (h.disj _ _ a z p)
    · exact p o z
  refine ⟨kb, by simpa using h.slen, h.tlen, h.mle, fun j s e => ?_, fun k s e => ?_, fun o o' a q1 q2 => ?_, fun o => ?_, fun o a => ?_, fun o a => ?_⟩
  · by_cases hj : j = i
    · subst hj
      rw [List.getElem?_set_self (by simpa using hi)] at e
      cases e
      refine ⟨v, hx, ?_⟩
      rw [fupd_same]
      exact nw
    · rw [List.getElem?_set_ne (Ne.symm hj), List.getElem?_map] at e
      cases e1 : ss[j]? with
      | none => rw [e1] at e; cases e
      | some s1 =>
        rw [e1] at e
        have e2 : kill (.v i) s1 = s := Option.some.inj e
        have z := (h.var j s1 e1).kill (.v i)
        rw [e2] at z
        have z2 : SlotOk K B H' fp m (.v j) ((σ[j]?).join) s := z.heap tk kb h.base (kk _ fun q => by injection q with q; exact hj q) fun o' d q => kk o' (kill_view (e2.trans q)).2
        cases s with
        | no => trivial
        | par d => exact z2
        | own d =>
          obtain ⟨w, e3, e4⟩ := z2
          refine ⟨w, e3, ?_⟩
          rw [fupd_vv hj]
          exact e4
        | view o' d =>
          obtain ⟨z1, w, e3, e4⟩ := z2
          refine ⟨z1, w, e3, ?_⟩
          rw [fupd_ne (kill_view e2).2]
          exact e4
  · have ms : s ∈ ts := List.mem_reverse.mp (List.mem_of_getElem? e)
    have z := h.tmp k s e
    have z2 : SlotOk K B H' fp m (.t k) (tv.reverse[k]?) s := z.heap tk kb h.base (kk _ fun q => nomatch q) fun o' d q => kk o' fun z => noView_mem ht _ ms d (by rw [q, z])
    cases s with
    | no => trivial
    | par d => exact z2
    | own d =>
      obtain ⟨w, e3, e4⟩ := z2
      refine ⟨w, e3, ?_⟩
      rw [fupd_tv]
      exact e4
    | view o' d =>
      obtain ⟨z1, w, e3, e4⟩ := z2
      refine ⟨z1, w, e3, ?_⟩
      have n1 : o' ≠ .v i := fun z => noView_mem ht _ ms d (by rw [z])
      rw [fupd_ne n1]
      exact e4
  · revert q1 q2
    show a ∈ (if o = Own.v i then F' else fp o) → a ∈ (if o' = Own.v i then F' else fp o') → o = o'
    by_cases h1 : o = .v i
    · by_cases h2 : o' = .v i
      · intro _ _; rw [h1, h2]
      · rw [if_pos h1, if_neg h2]
        exact fun q z => absurd z (dd o' h2 a q)
    · rw [if_neg h1]
      by_cases h2 : o' = .v i
      · rw [if_pos h2]; exact fun z q => absurd z (dd o h1 a q)
      · rw [if_neg h2]; exact h.disj o o' a
  · show (if o = Own.v i then F' else fp o).Nodup
    split
    · exact nd
    · exact h.nod o
  · show a ∈ (if o = Own.v i then F' else fp o) → _
    split
    · exact ob a
    · exact h.out o a
  · show a ∈ (if o = Own.v i then F' else fp o) → _
    split
    · exact nw.dom a
    · rename_i n1
      intro q
      obtain ⟨u, e, n⟩ := h.dom o a q
      exact ⟨u, by rw [kk o n1 a q]; exact e, n⟩
/-- the value of slot i is on the way from now on, the slot tells nothing -/
theorem HeldF.move (h : HeldF K m B H fp σ ss tv ts) {i : Nat} (hs : ss[i]? = some (.own d)) (ht : noView (.v i) ts = true) :
    ∃ v, σ[i]? = some (some v) ∧ HeldF K m B H (fupd (fupd fp (.v i) []) (.t ts.length) (fp (.v i))) σ ((ss.map (kill (.v i))).set i .no) (v :: tv) (.own d :: ts) := by
  obtain ⟨v, e1, e2⟩ := h.var i _ hs
  have ex : σ[i]? = some (some v) := by
    cases e : σ[i]? with
    | none => rw [e] at e1; cases e1
    | some y => rw [e] at e1; have z : y = some v := e1; rw [z]
  have hi : i < ss.length := (List.getElem?_eq_some_iff.mp hs).1
  have hmt : ∀ o, ownOk m o → o ≠ .t ts.length := fun o z e => by
    subst e
    exact absurd (h.mle _ z) (Nat.lt_irrefl _)
  have sub : ∀ o a, a ∈ (if o = Own.t ts.length then fp (.v i) else if o = Own.v i then [] else fp o) → (o = .t ts.length ∧ a ∈ fp (.v i)) ∨ (o ≠ .v i ∧ o ≠ .t ts.length ∧ a ∈ fp o) := fun o a => by
    by_cases h1 : o = .t ts.length
    · rw [if_pos h1]; exact fun q => .inl ⟨h1, q⟩
    · rw [if_neg h1]
      by_cases h2 : o = .v i
      · rw [if_pos h2]; exact fun z => nomatch z
      · rw [if_neg h2]; exact fun q => .inr ⟨h2, h1, q⟩
  refine ⟨v, ex, h.base, by simpa using h.slen, by simp [h.tlen], h.mle.up, fun j s e => ?_, fun k s e => ?_, fun o o' a q1 q2 => ?_, fun o => ?_, fun o a q => ?_, fun o a q => ?_⟩
  · by_cases hj : j = i
    · subst hj
      rw [List.getElem?_set_self (by simpa using hi)] at e
      cases e
      trivial
    · rw [List.getElem?_set_ne (Ne.symm hj), List.getElem?_map] at e
      cases e3 : ss[j]? with
      | none => rw [e3] at e; cases e
      | some s1 =>
        rw [e3] at e
        have e4 : kill (.v i) s1 = s := Option.some.inj e
        have z := (h.var j s1 e3).kill (.v i)
        rw [e4] at z
        cases s with
        | no => trivial
        | par d => exact z
        | own d =>
          obtain ⟨w, e5, e6⟩ := z
          refine ⟨w, e5, ?_⟩
          rw [fupd_vt, fupd_vv hj]
          exact e6
        | view o' d =>
          obtain ⟨z1, w, e5, e6⟩ := z
          refine ⟨z1, w, e5, ?_⟩
          rw [fupd_ne (hmt o' z1), fupd_ne (kill_view e4).2]
          exact e6
  · rcases rev_push e with ⟨hk, e0⟩ | ⟨hk, e0⟩
    · have z := h.tmp k s e0
      have ms : s ∈ ts := List.mem_reverse.mp (List.mem_of_getElem? e0)
      rw [rev_old (by rw [h.tlen]; exact hk)]
      cases s with
      | no => trivial
      | par d => exact z
      | own d =>
        obtain ⟨w, e5, e6⟩ := z
        refine ⟨w, e5, ?_⟩
        rw [fupd_tt (by omega), fupd_tv]
        exact e6
      | view o' d =>
        obtain ⟨z1, w, e5, e6⟩ := z
        refine ⟨z1, w, e5, ?_⟩
        have n1 : o' ≠ .v i := fun z => noView_mem ht _ ms d (by rw [z])
        rw [fupd_ne (hmt o' z1), fupd_ne n1]
        exact e6
    · clear e
      subst hk e0
      refine ⟨v, ?_, ?_⟩
      · rw [← h.tlen]; exact rev_top
      · rw [fupd_same]; exact e2
  · rcases sub o a q1 with ⟨e1, p1⟩ | ⟨e1, e2, p1⟩
    · rcases sub o' a q2 with ⟨e3, p2⟩ | ⟨e3, e4, p2⟩
      · rw [e1, e3]
      · exact absurd (h.disj _ _ a p2 p1) e3
    · rcases sub o' a q2 with ⟨e3, p2⟩ | ⟨e3, e4, p2⟩
      · exact absurd (h.disj _ _ a p1 p2) e1
      · exact h.disj o o' a p1 p2
  · show (if o = Own.t ts.length then fp (.v i) else if o = Own.v i then [] else fp o).Nodup
    split
    · exact h.nod _
    · split
      · exact List.nodup_nil
      · exact h.nod o
  · rcases sub o a q with ⟨_, p⟩ | ⟨_, _, p⟩
    · exact h.out _ a p
    · exact h.out _ a p
  · rcases sub o a q with ⟨_, p⟩ | ⟨_, _, p⟩
    · exact h.dom _ a p
    · exact h.dom _ a p
theorem Held.move (h : Held K m B H σ ss tv ts) {i : Nat} (hs : ss[i]? = some (.own d)) (ht : noView (.v i) ts = true) :
    ∃ v, σ[i]? = some (some v) ∧ Held K m B H σ ((ss.map (kill (.v i))).set i .no) (v :: tv) (.own d :: ts) := by
  obtain ⟨fp, h⟩ := h
  obtain ⟨v, e, q⟩ := h.move hs ht
  exact ⟨v, e, _, q⟩
/-- m more, and back -/
theorem HeldF.more (h : HeldF K m B H fp σ ss tv ts) (e : ∀ k, m k → m' k) (e2 : Low m' ts.length) : HeldF K m' B H fp σ ss tv ts :=
  ⟨h.base, h.slen, h.tlen, e2, fun i s q => (h.var i s q).more e, fun i s q => (h.tmp i s q).more e, h.disj, h.nod, h.out, h.dom⟩
theorem SlotOk.less {n : Nat} (h : SlotOk K B H fp m' o x s) (e : ∀ k, m' k → k < n → m k) : SlotOk K B H fp m o x (killT n s) := by
  cases s with
  | no => trivial
  | own _ => exact h
  | par _ => exact h
  | view o2 d2 =>
    cases o2 with
    | v i => obtain ⟨_, q⟩ := h; exact ⟨trivial, q⟩
    | t k =>
      rw [killT_t]
      split
      · rename_i c
        obtain ⟨z, q⟩ := h
        exact ⟨e k z c, q⟩
      · trivial
/-- views of values on the way, among these alone -/
def VOk (m : Nat → Prop) (ts : List Slot) : Prop := ∀ s ∈ ts, ∀ k d, s = .view (.t k) d → m k
theorem SlotOk.low (h : SlotOk K B H fp m' o x s) (e : ∀ k d, s = .view (.t k) d → m k) : SlotOk K B H fp m o x s := by
  cases s with
  | no => trivial
  | own _ => exact h
  | par _ => exact h
  | view o2 d2 =>
    obtain ⟨_, q⟩ := h
    refine ⟨?_, q⟩
    cases o2 with
    | v i => trivial
    | t k => exact e k d2 rfl
theorem HeldF.less {n : Nat} (h : HeldF K m' B H fp σ ss tv ts) (e1 : ∀ k, m' k → k < n → m k) (e2 : Low m ts.length) (e3 : VOk m ts) : HeldF K m B H fp σ (ss.map (killT n)) tv ts :=
  ⟨h.base, by simpa using h.slen, h.tlen, e2, fun i s q => by
    rw [List.getElem?_map] at q
    cases e4 : ss[i]? with
    | none => rw [e4] at q; cases q
    | some s1 =>
      rw [e4] at q
      have e2 : killT n s1 = s := Option.some.inj q
      rw [← e2]
      exact (h.var i s1 e4).less e1, fun i s q => (h.tmp i s q).low (e3 s (List.mem_reverse.mp (List.mem_of_getElem? q))), h.disj, h.nod, h.out, h.dom⟩
theorem HeldF.vok (h : HeldF K m B H fp σ ss tv ts) : VOk m ts := fun s hs k d e => by
  obtain ⟨j, hj⟩ := List.getElem?_of_mem (List.mem_reverse.mpr hs)
  have z := h.tmp j s hj
  subst e
  exact z.1
end
end DL
/-! The data layer, part 3: judgements over data, the rules of the plain constructs. -/
namespace DL
open PySem PySem.Spec PyProof.Rows L2

/-! ### the weakest readings -/
def wE (X : Cx) (e : Expr) : TE := fun σ H Q => ∀ pins s, Inv X pins σ H s → wpAny (model X.prog X.w) X.A (eval e X.env) (EP X pins σ Q) X.xe s
def wT (X : Cx) (e : Expr) : TT := fun σ H Q => ∀ pins s, Inv X pins σ H s → wpAny (model X.prog X.w) X.A (isTrue e X.env (eval e X.env)) (TP X pins σ Q) X.xe s
def wA (X : Cx) (es : List Expr) : TA := fun σ H Q => ∀ pos pins s, Inv X pins σ H s → wpAny (model X.prog X.w) X.A (spliced (backTo pos (starEach es X.env))) (AP X pins σ Q) X.xe s
def wS (X : Cx) (st : Stmt) : TS := fun D σ H => ∀ pins s, Inv X pins σ H s → wpAny (model X.prog X.w) X.A (exec st X.env) (SP X pins D) X.xe s
def wSs (X : Cx) (st : List Stmt) : TS := fun D σ H => ∀ pins s, Inv X pins σ H s → wpAny (model X.prog X.w) X.A (execs st X.env) (SP X pins D) X.xe s
def wG (X : Cx) (tg : Expr) : TG := fun v σ H Q => ∀ pins s u, Inv X pins σ H s → RelV v u → wpAny (model X.prog X.w) X.A (assign tg X.env u) (fun _ s' => ∃ σ' H', Inv X pins σ' H' s' ∧ Q σ' H') X.xe s
def wI (X : Cx) (tg it : Expr) : TI := fun σ H R => ∀ pins s, Inv X pins σ H s → wpAny (model X.prog X.w) X.A (eval it X.env) (fun v s1 => wpAny (model X.prog X.w) X.A (pyIter v) (PIE X pins σ tg R) X.xe s1) X.xe s
def wTs (X : Cx) (ifs : List Expr) : TT := fun σ H Q => ∃ t, PTs X ifs t ∧ t σ H Q
section
variable {X : Cx} {e : Expr}
theorem pe_w : PE X e (wE X e) := ⟨fun pins s _ _ _ I h => h pins s I⟩
theorem pt_w : PT X e (wT X e) := ⟨fun pins s _ _ _ I h => h pins s I⟩
theorem pa_w {es : List Expr} : PA X es (wA X es) := ⟨fun pos pins s _ _ _ I h => h pos pins s I⟩
theorem ps_w {st : Stmt} : PS X st (wS X st) := ⟨fun pins s _ _ _ I h => h pins s I⟩
theorem pss_w {st : List Stmt} : PSs X st (wSs X st) := ⟨fun pins s _ _ _ I h => h pins s I⟩
theorem pg_w {tg : Expr} : PG X tg (wG X tg) := ⟨fun pins s _ _ _ u _ I r h => h pins s u I r⟩
theorem pi_w {tg it : Expr} : PI X tg it (wI X tg it) := ⟨fun pins s _ _ _ I h => h pins s I⟩
theorem toE {t : TE} {σ : L2.St} {H : Hp} {Q : VK} (p : PE X e t) (q : t σ H Q) : wE X e σ H Q := fun pins s I => p.run pins s σ H Q I q
theorem toT {t : TT} {σ : L2.St} {H : Hp} {Q : Bool → Hp → Prop} (p : PT X e t) (q : t σ H Q) : wT X e σ H Q := fun pins s I => p.run pins s σ H Q I q
theorem toA {es : List Expr} {t : TA} {σ : L2.St} {H : Hp} {Q : List V → Hp → Prop} (p : PA X es t) (q : t σ H Q) : wA X es σ H Q := fun pos pins s I => p.run pos pins s σ H Q I q
theorem toS {st : Stmt} {t : TS} {σ : L2.St} {H : Hp} {D : Ends} (p : PS X st t) (q : t D σ H) : wS X st D σ H := fun pins s I => p.run pins s σ H D I q
theorem toSs {st : List Stmt} {t : TS} {σ : L2.St} {H : Hp} {D : Ends} (p : PSs X st t) (q : t D σ H) : wSs X st D σ H := fun pins s I => p.run pins s σ H D I q
theorem toG {tg : Expr} {t : TG} {v : V} {σ : L2.St} {H : Hp} {Q : L2.St → Hp → Prop} (p : PG X tg t) (q : t v σ H Q) : wG X tg v σ H Q := fun pins s u I r => p.run pins s σ H v u Q I r q
theorem toI {tg it : Expr} {t : TI} {σ : L2.St} {H : Hp} {R : It → Hp → Prop} (p : PI X tg it t) (q : t σ H R) : wI X tg it σ H R := fun pins s I => p.run pins s σ H R I q
end

/-! ### judgements -/
/-- an expression, from the slots ss and the values on the way ts: Φ of the slots behind and of the value -/
def EV (X : Cx) (e : Expr) (ss ts : List Slot) (Φ : List Slot → Slot → Prop) : Prop :=
  ∀ m B σ tv H Q, Low m ts.length → Held X.K m B H σ ss tv ts → (∀ ss' r v H', Φ ss' r → Held X.K m B H' σ ss' (v :: tv) (r :: ts) → Q v H') → wE X e σ H Q
def TV (X : Cx) (e : Expr) (ss ts : List Slot) (Φ : List Slot → Bool → Prop) : Prop :=
  ∀ m B σ tv H Q, Low m ts.length → Held X.K m B H σ ss tv ts → (∀ ss' b H', Φ ss' b → Held X.K m B H' σ ss' tv ts → Q b H') → wT X e σ H Q
/-- arguments: their values on the way, the last one at the top -/
def AV (X : Cx) (es : List Expr) (ss ts : List Slot) (Φ : List Slot → List Slot → Prop) : Prop :=
  ∀ m B σ tv H Q, Low m ts.length → Held X.K m B H σ ss tv ts → (∀ ss' rs vs H', Φ ss' rs → vs.length = rs.length → rs.length = es.length → Held X.K m B H' σ ss' (vs.reverse ++ tv) (rs.reverse ++ ts) → Q vs H') → wA X es σ H Q
/-- an item that a loop walks: one value, or a new pair -/
inductive El where
  | one (s : Slot) | two (s1 s2 : Slot)
def ElOk (K : PySem.W.Frag) (m : Nat → Prop) (B H : Hp) (σ : List (Option V)) (ss : List Slot) (tv : List V) (ts : List Slot) (x : V) : El → Prop
  | .one s => Held K m B H σ ss (x :: tv) (s :: ts)
  | .two s1 s2 => ∃ T x1 x2, x = .ref T ∧ SqT K H T [x1, x2] ∧ Held K m B H σ ss (x2 :: x1 :: tv) (s2 :: s1 :: ts)
/-- a target; only the slots as are stored -/
def GV (X : Cx) (tg : Expr) (as : List Nat) (el : El) (ss ts : List Slot) (N : List Slot → Prop) : Prop :=
  ∀ m B σ tv H x Q, Low m ts.length → ElOk X.K m B H σ ss tv ts x el → (∀ ss' σ' H', N ss' → Held X.K m B H' σ' ss' tv ts → (∀ i, i ∉ as → σ'[i]? = σ[i]?) ∧ σ'.length = σ.length → Q σ' H') → wG X tg x σ H Q
/-- what is walked: the values rs on the way (over n others), and the items -/
def IterOk (K : PySem.W.Frag) (n : Nat) (J : It) (rs : List Slot) (rv : List V) (els : List El) : Prop :=
  ∀ m B H σ ss ev es tv ts, Held K m B H σ ss (ev ++ (rv ++ tv)) (es ++ (rs ++ ts)) → ev.length = es.length → ts.length = n → (∀ k, n ≤ k → k < n + rs.length → m k) →
    (∀ i el, els[i]? = some el → J.go i H ∧ ∀ x H', J.yld i H x H' → ElOk K m B H' σ ss (ev ++ (rv ++ tv)) (es ++ (rs ++ ts)) x el) ∧ ∀ i, els.length ≤ i → J.stop i H
def IV (X : Cx) (tg it : Expr) (ss ts : List Slot) (Φ : List Slot → List Slot → List El → Prop) : Prop :=
  ∀ m B σ tv H R, Low m ts.length → Held X.K m B H σ ss tv ts →
    (∀ ss' rs rv els J H', Φ ss' rs els → rv.length = rs.length → Held X.K m B H' σ ss' (rv ++ tv) (rs ++ ts) → IterOk X.K ts.length J rs rv els → R J H') → wI X tg it σ H R

structure DE where
  nx : List Slot → Prop := fun _ => False
  rt : List Slot → Slot → Prop := fun _ _ => False
  bk : List Slot → Prop := fun _ => False
  ct : List Slot → Prop := fun _ => False
structure EndsOk (K : PySem.W.Frag) (B : Hp) (fx : List Nat) (σ0 : List (Option V)) (tv : List V) (ts : List Slot) (E : DE) (D : Ends) : Prop where
  nx : ∀ ss σ H, E.nx ss → Held K (fun k => k < ts.length) B H σ ss tv ts → (∀ i, i ∈ fx → σ[i]? = σ0[i]?) → D.nx σ H
  rt : ∀ ss r σ v H, E.rt ss r → Held K (fun k => k < ts.length) B H σ ss (v :: tv) (r :: ts) → (∀ i, i ∈ fx → σ[i]? = σ0[i]?) → D.rt v H
  bk : ∀ ss σ H, E.bk ss → Held K (fun k => k < ts.length) B H σ ss tv ts → (∀ i, i ∈ fx → σ[i]? = σ0[i]?) → D.bk σ H
  ct : ∀ ss σ H, E.ct ss → Held K (fun k => k < ts.length) B H σ ss tv ts → (∀ i, i ∈ fx → σ[i]? = σ0[i]?) → D.ct σ H
/-- a block; the slots fx are not stored -/
def SV (X : Cx) (fx : List Nat) (sts : List Stmt) (ss ts : List Slot) (E : DE) : Prop :=
  ∀ B σ tv H D, Held X.K (fun k => k < ts.length) B H σ ss tv ts → EndsOk X.K B fx σ tv ts E D → wSs X sts D σ H
/-- a statement -/
def S1 (X : Cx) (fx : List Nat) (st : Stmt) (ss ts : List Slot) (E : DE) : Prop :=
  ∀ B σ tv H D, Held X.K (fun k => k < ts.length) B H σ ss tv ts → EndsOk X.K B fx σ tv ts E D → wS X st D σ H

section
variable {X : Cx} {fx : List Nat} {ss ts : List Slot} {Φ Ψ : List Slot → Slot → Prop} {e a b c : Expr} {pos : Pos} {E : DE}

theorem EV.imp (h : EV X e ss ts Φ) (k : ∀ s r, Φ s r → Ψ s r) : EV X e ss ts Ψ := fun m B σ tv H Q hm hh q => h m B σ tv H Q hm hh fun s r v H' p => q s r v H' (k s r p)

/-! ### names, constants -/
theorem held_get {K : PySem.W.Frag} {m : Nat → Prop} {B H : Hp} {σ : List (Option V)} {tv : List V} {i : Nat} {s : Slot} (h : Held K m B H σ ss tv ts) (hs : ss[i]? = some s) {d : D} (hd : s = .own d ∨ s = .par d ∨ ∃ o, s = .view o d) :
    ∃ v, σ[i]? = some (some v) ∧ RepR K H d v := by
  obtain ⟨fp, h⟩ := h
  obtain ⟨v, e1, e2⟩ := (h.var i s hs).read h.base hd
  refine ⟨v, ?_, e2⟩
  cases e : σ[i]? with
  | none => rw [e] at e1; cases e1
  | some y => rw [e] at e1; have z : y = some v := e1; rw [z]
section
variable {i : Nat} {x : Str} {d : D} {o : Own}
/-- a slot of flat data -/
theorem ev_var (hN : X.N[i]? = some x) (hv : Vis X.env.scope x) (hs : ss[i]? = some (.own d)) (hf : d.flat = true) (q : Φ ss (.own d)) (hd : (x == ("__debug__" : Str)) = false := by decide) (hcd : (x == ("__classdict__" : Str)) = false := by decide) :
    EV X (.Name x pos) ss ts Φ := fun m B σ tv H Q hm h k => by
  refine toE (pe_var hN hv hd hcd) ?_
  obtain ⟨fp, h⟩ := h
  obtain ⟨v, e1, e2⟩ := h.var i _ hs
  have ex : σ[i]? = some (some v) := by
    cases e : σ[i]? with
    | none => rw [e] at e1; cases e1
    | some y => rw [e] at e1; have z : y = some v := e1; rw [z]
  rw [e2.nil_of hf] at e2
  exact ⟨v, ex, k ss _ v H q ⟨_, h.pushF e2⟩⟩
theorem ev_varP (hN : X.N[i]? = some x) (hv : Vis X.env.scope x) (hs : ss[i]? = some (.par d)) (q : Φ ss (.par d)) (hd : (x == ("__debug__" : Str)) = false := by decide) (hcd : (x == ("__classdict__" : Str)) = false := by decide) :
    EV X (.Name x pos) ss ts Φ := fun m B σ tv H Q hm h k => by
  refine toE (pe_var hN hv hd hcd) ?_
  obtain ⟨fp, h⟩ := h
  obtain ⟨v, e1, e2⟩ := h.var i _ hs
  have ex : σ[i]? = some (some v) := by
    cases e : σ[i]? with
    | none => rw [e] at e1; cases e1
    | some y => rw [e] at e1; have z : y = some v := e1; rw [z]
  exact ⟨v, ex, k ss _ v H q ⟨_, h.pushV (o := .v i) (fun _ z => nomatch z) ⟨v, rfl, e2⟩⟩⟩
theorem ev_varV (hN : X.N[i]? = some x) (hv : Vis X.env.scope x) (hs : ss[i]? = some (.view o d)) (q : Φ ss (.view o d)) (hd : (x == ("__debug__" : Str)) = false := by decide) (hcd : (x == ("__classdict__" : Str)) = false := by decide) :
    EV X (.Name x pos) ss ts Φ := fun m B σ tv H Q hm h k => by
  refine toE (pe_var hN hv hd hcd) ?_
  obtain ⟨fp, h⟩ := h
  obtain ⟨z, v, e1, e2⟩ := h.var i _ hs
  have ex : σ[i]? = some (some v) := by
    cases e : σ[i]? with
    | none => rw [e] at e1; cases e1
    | some y => rw [e] at e1; have z : y = some v := e1; rw [z]
  exact ⟨v, ex, k ss _ v H q ⟨_, h.pushV (o := .v i) (fun _ z => nomatch z) ⟨z, v, rfl, e2⟩⟩⟩
/-- owned lists, lent -/
theorem ev_varL (hN : X.N[i]? = some x) (hv : Vis X.env.scope x) (hs : ss[i]? = some (.own d)) (q : Φ ss (.view (.v i) d)) (hd : (x == ("__debug__" : Str)) = false := by decide) (hcd : (x == ("__classdict__" : Str)) = false := by decide) :
    EV X (.Name x pos) ss ts Φ := fun m B σ tv H Q hm h k => by
  refine toE (pe_var hN hv hd hcd) ?_
  obtain ⟨fp, h⟩ := h
  obtain ⟨v, e1, e2⟩ := h.var i _ hs
  have ex : σ[i]? = some (some v) := by
    cases e : σ[i]? with
    | none => rw [e] at e1; cases e1
    | some y => rw [e] at e1; have z : y = some v := e1; rw [z]
  exact ⟨v, ex, k ss _ v H q ⟨_, h.pushV (o := .v i) (fun _ z => nomatch z) ⟨trivial, v, rfl, e2.toR fun a ha => .inl ha⟩⟩⟩
/-- owned lists, given away -/
theorem ev_varM (hN : X.N[i]? = some x) (hv : Vis X.env.scope x) (hs : ss[i]? = some (.own d)) (ht : noView (.v i) ts = true) (q : Φ ((ss.map (kill (.v i))).set i .no) (.own d)) (hd : (x == ("__debug__" : Str)) = false := by decide) (hcd : (x == ("__classdict__" : Str)) = false := by decide) :
    EV X (.Name x pos) ss ts Φ := fun m B σ tv H Q hm h k => by
  refine toE (pe_var hN hv hd hcd) ?_
  obtain ⟨v, ex, h2⟩ := h.move hs ht
  exact ⟨v, ex, k _ _ v H q h2⟩
end
theorem ev_const {v : V} {d : D} (p : PE X e (tC v)) (r : ∀ H, RepO X.K H d v []) (q : Φ ss (.own d)) : EV X e ss ts Φ := fun m B σ tv H Q hm h k =>
  toE p (k ss _ v H q (h.pushF (r H)))
theorem ev_int {i j} (q : Φ ss (.own (.int i))) : EV X (.Constant (.int i) j pos) ss ts Φ := ev_const pe_int (fun H => by unfold RepO; exact ⟨rfl, rfl⟩) q
theorem ev_bl {i j} (q : Φ ss (.own (.bl i))) : EV X (.Constant (.bool i) j pos) ss ts Φ := ev_const pe_bl (fun H => by unfold RepO; exact ⟨rfl, rfl⟩) q
theorem ev_non {j} (q : Φ ss (.own .non)) : EV X (.Constant .none j pos) ss ts Φ := ev_const pe_non (fun H => by unfold RepO; exact ⟨rfl, rfl⟩) q
theorem ev_str {i j} (q : Φ ss (.own (.str i))) : EV X (.Constant (.str i) j pos) ss ts Φ := ev_const pe_str (fun H => by unfold RepO; exact ⟨rfl, rfl⟩) q

/-! ### the value at the top -/
/-- what is read of a slot that was on the way -/
def Slot.is (s : Slot) (d : D) : Prop := s = .own d ∨ s = .par d ∨ ∃ o, s = .view o d
theorem Slot.is_own {d : D} : Slot.is (.own d) d := .inl rfl
theorem Slot.is_par {d : D} : Slot.is (.par d) d := .inr (.inl rfl)
theorem Slot.is_view {d : D} {o : Own} : Slot.is (.view o d) d := .inr (.inr ⟨o, rfl⟩)
section
variable {K : PySem.W.Frag} {m : Nat → Prop} {B H : Hp} {σ : List (Option V)} {tv : List V} {v w : V} {s r : Slot} {d d' : D}
theorem Held.top (h : Held K m B H σ ss (v :: tv) (s :: ts)) (e : s.is d) : RepR K H d v := by
  obtain ⟨fp, h⟩ := h
  obtain ⟨w, e1, e2⟩ := h.top.read h.base e
  cases e1
  exact e2
theorem Held.top2 (h : Held K m B H σ ss (w :: v :: tv) (r :: s :: ts)) (e : s.is d) : RepR K H d v := by
  obtain ⟨fp, h⟩ := h
  have hl : tv.length = ts.length := by have := h.tlen; simpa using this
  have z := h.tmp ts.length s (by rw [rev_old (by simp)]; exact rev_top)
  rw [rev_old (by simp [hl])] at z
  rw [← hl, rev_top] at z
  obtain ⟨u, e1, e2⟩ := z.read h.base e
  cases e1
  exact e2
theorem rep_int {i : Int} {v : V} : RepR K H (.int i) v ↔ v = .int i := by unfold RepR; exact Iff.rfl
theorem rep_bl {i : Bool} {v : V} : RepR K H (.bl i) v ↔ v = .bl i := by unfold RepR; exact Iff.rfl
theorem rep_str {i : Str} {v : V} : RepR K H (.str i) v ↔ v = .str i := by unfold RepR; exact Iff.rfl
theorem rep_non {v : V} : RepR K H .non v ↔ v = .non := by unfold RepR; exact Iff.rfl
theorem rep_raw {u v : V} : RepR K H (.raw u) v ↔ v = u := by unfold RepR; exact Iff.rfl
theorem o_int {i : Int} : RepO K H (.int i) (.int i) [] := by unfold RepO; exact ⟨rfl, rfl⟩
theorem o_bl {i : Bool} : RepO K H (.bl i) (.bl i) [] := by unfold RepO; exact ⟨rfl, rfl⟩
theorem o_str {i : Str} : RepO K H (.str i) (.str i) [] := by unfold RepO; exact ⟨rfl, rfl⟩
theorem o_non : RepO K H .non .non [] := by unfold RepO; exact ⟨rfl, rfl⟩
end

/-! ### operators on scalars -/
/-- two operands: what the rule of the operator asks and gives, by values -/
theorem ev_op2 {op : Operator} {r : R2} (ho : OpR X (binaryOp op) r) (h : EV X a ss ts fun s1 r1 => EV X b s1 (r1 :: ts) fun s2 r2 => ∃ d1 d2 d, r1.is d1 ∧ r2.is d2 ∧
      (∀ H x y, RepR X.K H d1 x → RepR X.K H d2 y → ∃ z, (∀ H, RepO X.K H d z []) ∧ ∀ Q : VK, Q z H → r x y H Q) ∧ Φ s2 (.own d)) : EV X (.BinOp a op b pos) ss ts Φ := fun m B σ tv H Q hm hh k => by
  refine toE (pe_op ho pe_w pe_w) ?_
  refine h m B σ tv H _ hm hh fun s1 r1 x H1 h1 hh1 => ?_
  refine h1 m B σ (x :: tv) H1 _ (hm.up) hh1 fun s2 r2 y H2 ⟨d1, d2, d, e1, e2, ru, q⟩ hh2 => ?_
  obtain ⟨z, rz, go⟩ := ru H2 x y (hh2.top2 e1) (hh2.top e2)
  exact go Q (k s2 _ z H2 q (((hh2.pop (hm.up)).pop hm).pushF (rz H2)))
theorem ev_cmp2 {op : CmpOp} {r : R2} (ho : OpR X (compareOp op) r) (h1 : behindInMarks op b = false) (h : EV X a ss ts fun s1 r1 => EV X b s1 (r1 :: ts) fun s2 r2 => ∃ d1 d2 d, r1.is d1 ∧ r2.is d2 ∧
      (∀ H x y, RepR X.K H d1 x → RepR X.K H d2 y → ∃ z, (∀ H, RepO X.K H d z []) ∧ ∀ Q : VK, Q z H → r x y H Q) ∧ Φ s2 (.own d)) : EV X (.Compare a [op] [b] pos) ss ts Φ := fun m B σ tv H Q hm hh k => by
  refine toE (pe_cmpR ho pe_w pe_w h1) ?_
  refine h m B σ tv H _ hm hh fun s1 r1 x H1 h1 hh1 => ?_
  refine h1 m B σ (x :: tv) H1 _ (hm.up) hh1 fun s2 r2 y H2 ⟨d1, d2, d, e1, e2, ru, q⟩ hh2 => ?_
  obtain ⟨z, rz, go⟩ := ru H2 x y (hh2.top2 e1) (hh2.top e2)
  exact go Q (k s2 _ z H2 q (((hh2.pop (hm.up)).pop hm).pushF (rz H2)))
theorem tv_cmp2 {op : CmpOp} {r : R2} {Θ : List Slot → Bool → Prop} (ho : OpR X (compareOp op) r) (h1 : behindInMarks op b = false) (h : EV X a ss ts fun s1 r1 => EV X b s1 (r1 :: ts) fun s2 r2 => ∃ d1 d2 t, r1.is d1 ∧ r2.is d2 ∧
      (∀ H x y, RepR X.K H d1 x → RepR X.K H d2 y → ∀ Q : VK, Q (.bl t) H → r x y H Q) ∧ Θ s2 t) : TV X (.Compare a [op] [b] pos) ss ts Θ := fun m B σ tv H Q hm hh k => by
  refine toT (pt_cmpR ho pe_w pe_w h1) ?_
  refine h m B σ tv H _ hm hh fun s1 r1 x H1 h1 hh1 => ?_
  refine h1 m B σ (x :: tv) H1 _ (hm.up) hh1 fun s2 r2 y H2 ⟨d1, d2, t, e1, e2, go, q⟩ hh2 => ?_
  exact go H2 x y (hh2.top2 e1) (hh2.top e2) _ ⟨t, rfl, k s2 t H2 q ((hh2.pop (hm.up)).pop hm)⟩
theorem ev_un {op : UnaryOp} {r : V → Hp → VK → Prop} (ho : UnR X (unaryOp op) r) (h : EV X a ss ts fun s1 r1 => ∃ d1 d, r1.is d1 ∧
      (∀ H x, RepR X.K H d1 x → ∃ z, (∀ H, RepO X.K H d z []) ∧ ∀ Q : VK, Q z H → r x H Q) ∧ Φ s1 (.own d)) : EV X (.UnaryOp op a pos) ss ts Φ := fun m B σ tv H Q hm hh k => by
  refine toE (pe_un ho pe_w) ?_
  refine h m B σ tv H _ hm hh fun s1 r1 x H1 ⟨d1, d, e1, ru, q⟩ hh1 => ?_
  obtain ⟨z, rz, go⟩ := ru H1 x (hh1.top e1)
  exact go Q (k s1 _ z H1 q ((hh1.pop hm).pushF (rz H1)))

/-! ### tests -/
variable {Θ : List Slot → Bool → Prop} {rest : List Expr}
/-- a value that is a bool -/
theorem tv_val (h : EV X e ss ts fun s r => ∃ t, r.is (.bl t) ∧ Θ s t) (he : ∀ whole, isTrue e X.env whole = (do let v ← whole; standAt e.pos; holding [v] (truthy v)) := by intro _; rfl) : TV X e ss ts Θ := fun m B σ tv H Q hm hh k => by
  refine toT (pt_val pe_w he) ?_
  refine h m B σ tv H _ hm hh fun s r x H1 ⟨t, e1, q⟩ hh1 => ?_
  have z := hh1.top e1
  rw [rep_bl] at z
  exact ⟨t, z, k s t H1 q (hh1.pop hm)⟩
theorem tv_not (h : TV X a ss ts fun s t => Θ s (!t)) : TV X (.UnaryOp .Not a pos) ss ts Θ := fun m B σ tv H Q hm hh k => by
  refine toT (pt_not pt_w) ?_
  exact h m B σ tv H _ hm hh fun s t H1 q hh1 => k s _ H1 q hh1
theorem tv_and1 (h : TV X a ss ts Θ) : TV X (.BoolOp .And [a] pos) ss ts Θ := fun m B σ tv H Q hm hh k => toT (pw_and1 pt_w).pt (h m B σ tv H _ hm hh k)
theorem tv_or1 (h : TV X a ss ts Θ) : TV X (.BoolOp .Or [a] pos) ss ts Θ := fun m B σ tv H Q hm hh k => toT (pw_or1 pt_w).pt (h m B σ tv H _ hm hh k)
/-- a BoolOp test, whatever its whole is -/
def WV (X : Cx) (e : Expr) (ss ts : List Slot) (Φ : List Slot → Bool → Prop) : Prop :=
  ∀ m B σ tv H Q, Low m ts.length → Held X.K m B H σ ss tv ts → (∀ ss' b H', Φ ss' b → Held X.K m B H' σ ss' tv ts → Q b H') → ∃ t, PW X e t ∧ t σ H Q
def wW (X : Cx) (e : Expr) : TT := fun σ H Q => ∀ (whole : Sem Value) pins s, Inv X pins σ H s → wpAny (model X.prog X.w) X.A (isTrue e X.env whole) (TP X pins σ Q) X.xe s
theorem pw_w : PW X e (wW X e) := ⟨fun wh pins s _ _ _ I h => h wh pins s I⟩
theorem toW {t : TT} {σ : L2.St} {H : Hp} {Q : Bool → Hp → Prop} (p : PW X e t) (q : t σ H Q) : wW X e σ H Q := fun wh pins s I => p.run wh pins s σ H Q I q
theorem WV.w (h : WV X e ss ts Θ) {m : Nat → Prop} {B H : Hp} {σ : List (Option V)} {tv : List V} {Q : Bool → Hp → Prop} (hm : Low m ts.length) (hh : Held X.K m B H σ ss tv ts) (k : ∀ ss' b H', Θ ss' b → Held X.K m B H' σ ss' tv ts → Q b H') : wW X e σ H Q := by
  obtain ⟨t, p, q⟩ := h m B σ tv H Q hm hh k
  exact toW p q
theorem tv_w (h : WV X e ss ts Θ) : TV X e ss ts Θ := fun m B σ tv H Q hm hh k => toT pw_w.pt (h.w hm hh k)
theorem wv_and1 (h : TV X a ss ts Θ) : WV X (.BoolOp .And [a] pos) ss ts Θ := fun m B σ tv H Q hm hh k => ⟨_, pw_and1 pt_w, h m B σ tv H _ hm hh k⟩
theorem wv_or1 (h : TV X a ss ts Θ) : WV X (.BoolOp .Or [a] pos) ss ts Θ := fun m B σ tv H Q hm hh k => ⟨_, pw_or1 pt_w, h m B σ tv H _ hm hh k⟩
theorem wv_and (h : TV X a ss ts fun s t => (t = true → WV X (.BoolOp .And (b :: rest) pos) s ts Θ) ∧ (t = false → Θ s false)) : WV X (.BoolOp .And (a :: b :: rest) pos) ss ts Θ := fun m B σ tv H Q hm hh k => by
  refine ⟨_, pw_and pt_w pw_w, ?_⟩
  refine h m B σ tv H _ hm hh fun s t H1 ⟨q1, q2⟩ hh1 => ?_
  cases t with
  | true => exact iteT ((q1 rfl).w hm hh1 k)
  | false => exact iteF (k s false H1 (q2 rfl) hh1)
theorem wv_or (h : TV X a ss ts fun s t => (t = true → Θ s true) ∧ (t = false → WV X (.BoolOp .Or (b :: rest) pos) s ts Θ)) : WV X (.BoolOp .Or (a :: b :: rest) pos) ss ts Θ := fun m B σ tv H Q hm hh k => by
  refine ⟨_, pw_or pt_w pw_w, ?_⟩
  refine h m B σ tv H _ hm hh fun s t H1 ⟨q1, q2⟩ hh1 => ?_
  cases t with
  | true => exact iteT (k s true H1 (q1 rfl) hh1)
  | false => exact iteF ((q2 rfl).w hm hh1 k)
/-- and, or as values (bools) -/
theorem ev_one {op} (h : EV X a ss ts Φ) : EV X (.BoolOp op [a] pos) ss ts Φ := fun m B σ tv H Q hm hh k => toE (pe_one pe_w) (h m B σ tv H Q hm hh k)
theorem ev_and (h : EV X a ss ts fun s r => ∃ t, r.is (.bl t) ∧ (t = true → EV X (.BoolOp .And (b :: rest) pos) s ts Φ) ∧ (t = false → Φ s (.own (.bl false)))) : EV X (.BoolOp .And (a :: b :: rest) pos) ss ts Φ := fun m B σ tv H Q hm hh k => by
  refine toE (pe_and pe_w pe_w) ?_
  refine h m B σ tv H _ hm hh fun s r x H1 ⟨t, e1, q1, q2⟩ hh1 => ?_
  have z := hh1.top e1
  rw [rep_bl] at z
  refine ⟨t, z, ?_⟩
  cases t with
  | true => exact iteT ((q1 rfl) m B σ tv H1 Q hm (hh1.pop hm) k)
  | false => exact iteF (k s _ _ H1 (q2 rfl) ((hh1.pop hm).pushF o_bl))
theorem ev_or (h : EV X a ss ts fun s r => ∃ t, r.is (.bl t) ∧ (t = true → Φ s (.own (.bl true))) ∧ (t = false → EV X (.BoolOp .Or (b :: rest) pos) s ts Φ)) : EV X (.BoolOp .Or (a :: b :: rest) pos) ss ts Φ := fun m B σ tv H Q hm hh k => by
  refine toE (pe_or pe_w pe_w) ?_
  refine h m B σ tv H _ hm hh fun s r x H1 ⟨t, e1, q1, q2⟩ hh1 => ?_
  have z := hh1.top e1
  rw [rep_bl] at z
  refine ⟨t, z, ?_⟩
  cases t with
  | true => exact iteT (k s _ _ H1 (q1 rfl) ((hh1.pop hm).pushF o_bl))
  | false => exact iteF ((q2 rfl) m B σ tv H1 Q hm (hh1.pop hm) k)
theorem ev_not (h : EV X a ss ts fun s r => ∃ t, r.is (.bl t) ∧ Φ s (.own (.bl (!t)))) : EV X (.UnaryOp .Not a pos) ss ts Φ := fun m B σ tv H Q hm hh k => by
  refine toE (pe_not pe_w) ?_
  refine h m B σ tv H _ hm hh fun s r x H1 ⟨t, e1, q⟩ hh1 => ?_
  have z := hh1.top e1
  rw [rep_bl] at z
  exact ⟨t, z, k s _ _ H1 q ((hh1.pop hm).pushF o_bl)⟩
theorem ev_if (h : TV X c ss ts fun s t => (t = true → EV X a s ts Φ) ∧ (t = false → EV X b s ts Φ)) : EV X (.IfExp c a b pos) ss ts Φ := fun m B σ tv H Q hm hh k => by
  refine toE (pe_ifExp pt_w pe_w pe_w) ?_
  refine h m B σ tv H _ hm hh fun s t H1 ⟨q1, q2⟩ hh1 => ?_
  cases t with
  | true => exact iteT ((q1 rfl) m B σ tv H1 Q hm hh1 k)
  | false => exact iteF ((q2 rfl) m B σ tv H1 Q hm hh1 k)

/-! ### arguments -/
variable {Ω : List Slot → List Slot → Prop} {es : List Expr}
theorem av_nil (q : Ω ss []) : AV X [] ss ts Ω := fun m B σ tv H Q hm hh k => toA pa_nil (k ss [] [] H q rfl rfl hh)
theorem av_cons (h : EV X e ss ts fun s r => AV X es s (r :: ts) fun s' rs => Ω s' (r :: rs)) (hs : starEach (e :: es) X.env = (false, eval e X.env) :: starEach es X.env := by rfl) : AV X (e :: es) ss ts Ω := fun m B σ tv H Q hm hh k => by
  refine toA (pa_cons pe_w pa_w hs) ?_
  refine h m B σ tv H _ hm hh fun s r x H1 h1 hh1 => ?_
  refine h1 m B σ (x :: tv) H1 _ (hm.up) hh1 fun s' rs vs H2 q l1 l2 hh2 => ?_
  refine k s' (r :: rs) (x :: vs) H2 q (by simp [l1]) (by simp [l2]) ?_
  rw [List.reverse_cons, List.reverse_cons, List.append_assoc, List.append_assoc]
  exact hh2
end
end DL
/-! The data layer, part 4: blocks, loops, calls of the program's own defs, a def's promise. -/
namespace DL
open PySem PySem.Spec PyProof.Rows L2

section
variable {K : PySem.W.Frag} {m m' : Nat → Prop} {B H H' : Hp} {fp fp' : Own → List Addr} {σ : List (Option V)} {ss ts rs : List Slot} {tv rv : List V} {v w : V} {s r : Slot} {d d' : D} {F : List Addr}
theorem Held.vok (h : Held K m B H σ ss tv ts) : VOk m ts := let ⟨_, h⟩ := h; h.vok
theorem Held.less {n : Nat} (h : Held K m' B H σ ss tv ts) (e1 : ∀ k, m' k → k < n → m k) (e2 : Low m ts.length) (e3 : VOk m ts) : Held K m B H σ (ss.map (killT n)) tv ts := let ⟨fp, h⟩ := h; ⟨fp, h.less e1 e2 e3⟩
theorem Held.more (h : Held K m B H σ ss tv ts) (e : ∀ k, m k → m' k) (e2 : Low m' ts.length) : Held K m' B H σ ss tv ts := let ⟨fp, h⟩ := h; ⟨fp, h.more e e2⟩
theorem Low.app {m : Nat → Prop} {ts : List Slot} (h : Low m ts.length) (rs : List Slot) : Low m (rs ++ ts).length := fun k q => by
  have := h k q
  rw [List.length_append]
  omega
theorem HeldF.popN : ∀ {rs : List Slot} {rv : List V}, rv.length = rs.length → HeldF K m B H fp σ ss (rv ++ tv) (rs ++ ts) → Low m ts.length → HeldF K m B H fp σ ss tv ts
  | [], [], _, h, _ => h
  | s :: rs, v :: rv, e, h, hm => HeldF.popN (rs := rs) (rv := rv) (by simpa using e) (h.pop (hm.app _)) hm
  | [], _ :: _, e, _, _ => nomatch e
  | _ :: _, [], e, _, _ => nomatch e
theorem Held.popN (e : rv.length = rs.length) (h : Held K m B H σ ss (rv ++ tv) (rs ++ ts)) (hm : Low m ts.length) : Held K m B H σ ss tv ts := let ⟨fp, h⟩ := h; ⟨fp, h.popN e hm⟩
/-- what is owned by nothing that is told is let go -/
theorem HeldF.clear (h : HeldF K m B H fp σ ss tv ts) {k : Nat} (hk : ts.length ≤ k) : HeldF K m B H (fupd fp (.t k) []) σ ss tv ts := by
  have hm : ∀ o, ownOk m o → o ≠ .t k := fun o z e => by
    subst e
    exact absurd (h.mle _ z) (Nat.not_lt_of_le hk)
  refine ⟨h.base, h.slen, h.tlen, h.mle, fun i s e => ?_, fun j s e => ?_, fun o o' a => ?_, fun o => ?_, fun o a => ?_, fun o a => ?_⟩
  · exact (h.var i s e).congr fupd_vt fun o' z => fupd_ne (hm o' z)
  · have hj : j < ts.length := by
      have z := (List.getElem?_eq_some_iff.mp e).1
      simpa using z
    exact (h.tmp j s e).congr (fupd_tt (by omega)) fun o' z => fupd_ne (hm o' z)
  · show a ∈ (if o = .t k then [] else fp o) → a ∈ (if o' = .t k then [] else fp o') → o = o'
    by_cases h1 : o = .t k
    · rw [if_pos h1]; exact fun z => nomatch z
    · by_cases h2 : o' = .t k
      · rw [if_pos h2]; exact fun _ z => nomatch z
      · rw [if_neg h1, if_neg h2]; exact h.disj o o' a
  · show (if o = .t k then [] else fp o).Nodup
    split
    · exact List.nodup_nil
    · exact h.nod o
  · show a ∈ (if o = .t k then [] else fp o) → _
    split
    · exact fun z => nomatch z
    · exact h.out o a
  · show a ∈ (if o = .t k then [] else fp o) → _
    split
    · exact fun z => nomatch z
    · exact h.dom o a
/-- the owned value at the top, taken off: its lists are nobody's -/
theorem HeldF.take (h : HeldF K m B H fp σ ss (v :: tv) (.own d :: ts)) (hm : Low m ts.length) :
    ∃ fp' F, HeldF K m B H fp' σ ss tv ts ∧ (∀ o a, a ∈ fp' o → a ∈ fp o) ∧ RepO K H d v F ∧ F.Nodup ∧ (∀ a ∈ F, ∀ o, a ∉ fp' o) ∧ (∀ a ∈ F, B a = none) ∧ ∀ a ∈ F, a ∈ fp (.t ts.length) := by
  obtain ⟨w, e1, e2⟩ := h.top
  cases e1
  refine ⟨_, _, (h.pop hm).clear (Nat.le_refl _), fun o a q => ?_, e2, h.nod _, fun a ha o q => ?_, fun a ha => h.out _ a ha, fun a ha => ha⟩
  · revert q
    show a ∈ (if o = .t ts.length then [] else fp o) → _
    split
    · exact fun z => nomatch z
    · exact fun z => z
  · revert q
    show a ∈ (if o = .t ts.length then [] else fp o) → _
    split
    · exact fun z => nomatch z
    · rename_i n
      exact fun z => n (h.disj _ _ a z ha)
/-- several owned values at the top (the last one at the top), taken off -/
theorem HeldF.gather : ∀ (ds : List D) {vs : List V} {fp : Own → List Addr}, vs.length = ds.length → HeldF K m B H fp σ ss (vs ++ tv) (ds.map Slot.own ++ ts) → Low m ts.length →
    ∃ fp' F, HeldF K m B H fp' σ ss tv ts ∧ (∀ o a, a ∈ fp' o → a ∈ fp o) ∧ RepOs K H ds.reverse vs.reverse F ∧ F.Nodup ∧ (∀ a ∈ F, ∀ o, a ∉ fp' o) ∧ (∀ a ∈ F, B a = none) ∧ ∀ a ∈ F, ∃ o, a ∈ fp o
  | [], [], fp, _, h, _ => ⟨fp, [], h, fun _ _ z => z, by unfold RepOs; exact ⟨rfl, rfl⟩, List.nodup_nil, (fun _ z => nomatch z), (fun _ z => nomatch z), (fun _ z => nomatch z)⟩
  | d :: ds, v :: vs, fp, e, h, hm => by
    obtain ⟨fp1, F1, h1, s1, r1, n1, o1, b1, t1⟩ := HeldF.take (ts := ds.map Slot.own ++ ts) (tv := vs ++ tv) h (hm.app _)
    obtain ⟨fp2, F2, h2, s2, r2, n2, o2, b2, t2⟩ := HeldF.gather ds (vs := vs) (by simpa using e) h1 hm
    refine ⟨fp2, F2 ++ F1, h2, fun o a z => s1 o a (s2 o a z), ?_, ?_, fun a ha o z => ?_, fun a ha => ?_, fun a ha => ?_⟩
    · rw [List.reverse_cons, List.reverse_cons]
      exact r2.append (RepOs.one r1)
    · refine List.nodup_append.mpr ⟨n2, n1, fun a ha b hb z => ?_⟩
      subst z
      obtain ⟨o, q⟩ := t2 a ha
      exact o1 a hb o q
    · rcases List.mem_append.mp ha with ha | ha
      · exact o2 a ha o z
      · exact o1 a ha o (s2 o a z)
    · rcases List.mem_append.mp ha with ha | ha
      · exact b2 a ha
      · exact b1 a ha
    · rcases List.mem_append.mp ha with ha | ha
      · obtain ⟨o, q⟩ := t2 a ha
        exact ⟨o, s1 o a q⟩
      · exact ⟨_, t1 a ha⟩
  | [], _ :: _, _, e, _, _ => nomatch e
  | _ :: _, [], _, e, _, _ => nomatch e
/-- the owned value at the top, what lies under it taken away -/
theorem HeldF.under (h : HeldF K m B H fp σ ss (v :: (rv ++ tv)) (.own d :: (rs ++ ts))) (e : rv.length = rs.length) (hm : Low m ts.length) : Held K m B H σ ss (v :: tv) (.own d :: ts) := by
  obtain ⟨fp1, F1, h1, s1, r1, n1, o1, b1, t1⟩ := HeldF.take h (hm.app _)
  exact ⟨_, (h1.popN e hm).push r1 n1 (fun a ha o _ => o1 a ha o) b1⟩
theorem Held.under (h : Held K m B H σ ss (v :: (rv ++ tv)) (.own d :: (rs ++ ts))) (e : rv.length = rs.length) (hm : Low m ts.length) : Held K m B H σ ss (v :: tv) (.own d :: ts) := let ⟨_, h⟩ := h; h.under e hm
/-- flat data of any slot, as owned -/
theorem Held.flat (h : Held K m B H σ ss (v :: tv) (r :: ts)) (hm : Low m ts.length) (e : r.is d) (hf : d.flat = true) : Held K m B H σ ss (v :: tv) (.own d :: ts) := (h.pop hm).pushF ((h.top e).flatO hf)
end

theorem EndsOk.to {K : PySem.W.Frag} {B : Hp} {fx : List Nat} {σ σ' : List (Option V)} {tv : List V} {ts : List Slot} {E : DE} {D : Ends} (h : EndsOk K B fx σ tv ts E D) (e : ∀ i, i ∈ fx → σ'[i]? = σ[i]?) : EndsOk K B fx σ' tv ts E D :=
  ⟨fun ss s H q hh z => h.nx ss s H q hh fun i hi => (z i hi).trans (e i hi), fun ss r s v H q hh z => h.rt ss r s v H q hh fun i hi => (z i hi).trans (e i hi),
    fun ss s H q hh z => h.bk ss s H q hh fun i hi => (z i hi).trans (e i hi), fun ss s H q hh z => h.ct ss s H q hh fun i hi => (z i hi).trans (e i hi)⟩

section
variable {X : Cx} {fx : List Nat} {ss ts : List Slot} {Φ : List Slot → Slot → Prop} {e a b c tg it : Expr} {pos : Pos} {E : DE} {st : Stmt} {rest sts sts2 : List Stmt}

theorem isSome_lt {α : Type} {l : List α} {i : Nat} (h : (l[i]?).isSome = true) : i < l.length := by
  by_cases hi : i < l.length
  · exact hi
  · rw [List.getElem?_eq_none (Nat.le_of_not_lt hi)] at h
    cases h
theorem noView_tail {o : Own} {r : Slot} {l : List Slot} (h : noView o (r :: l) = true) : noView o l = true := by
  cases r <;> first | exact h | (unfold noView at h; rw [Bool.and_eq_true] at h; exact h.2)
theorem noView_head {o : Own} {r : Slot} {l : List Slot} (h : noView o (r :: l) = true) (d : D) : r ≠ .view o d := noView_mem h _ List.mem_cons_self d
/-! ### blocks -/
theorem sv_nil (q : E.nx ss) : SV X fx [] ss ts E := fun B σ tv H D h k => toSs pss_nil (k.nx ss σ H q h fun _ _ => rfl)
theorem sv_cons (h : S1 X fx st ss ts { E with nx := fun s => SV X fx rest s ts E }) : SV X fx (st :: rest) ss ts E := fun B σ tv H D hh k => by
  refine toSs (pss_cons ps_w pss_w) ?_
  refine h B σ tv H _ hh ⟨fun s σ' H' q h' z => ?_, k.rt, k.bk, k.ct⟩
  exact q B σ' tv H' D h' (k.to z)
theorem sv_one (h : S1 X fx st ss ts E) : SV X fx [st] ss ts E := fun B σ tv H D hh k => toSs (pss_one ps_w) (h B σ tv H D hh k)
theorem s1_pass (q : E.nx ss) : S1 X fx (.Pass pos) ss ts E := fun B σ tv H D h k => toS ps_pass (k.nx ss σ H q h fun _ _ => rfl)
theorem s1_break (q : E.bk ss) : S1 X fx (.Break pos) ss ts E := fun B σ tv H D h k => toS ps_break (k.bk ss σ H q h fun _ _ => rfl)
theorem s1_continue (q : E.ct ss) : S1 X fx (.Continue pos) ss ts E := fun B σ tv H D h k => toS ps_continue (k.ct ss σ H q h fun _ _ => rfl)
theorem s1_expr (h : EV X e ss ts fun s _ => E.nx s) (hs : swapsWith e none pos.line X.env = pure false := by rfl) : S1 X fx (.Expr e pos) ss ts E := fun B σ tv H D hh k => by
  refine toS (ps_expr pe_w hs) ?_
  exact h (fun k => k < ts.length) B σ tv H _ Low.self hh fun s r v H' q h' => k.nx s σ H' q (h'.pop Low.self) fun _ _ => rfl
theorem s1_ret (h : EV X e ss ts fun s r => E.rt s r) : S1 X fx (.Return (some e) pos) ss ts E := fun B σ tv H D hh k => by
  refine toS (ps_ret pe_w) ?_
  exact h (fun k => k < ts.length) B σ tv H _ Low.self hh fun s r v H' q h' => k.rt s r σ v H' q h' fun _ _ => rfl
theorem s1_retN (q : E.rt ss (.own .non)) : S1 X fx (.Return none pos) ss ts E := fun B σ tv H D hh k =>
  toS ps_retN (k.rt ss _ σ .non H q (hh.pushF o_non) fun _ _ => rfl)
theorem s1_if (h : TV X c ss ts fun s t => (t = true → SV X fx sts s ts E) ∧ (t = false → SV X fx sts2 s ts E)) : S1 X fx (.If c sts sts2 pos) ss ts E := fun B σ tv H D hh k => by
  refine toS (ps_if pt_w pss_w pss_w) ?_
  refine h (fun k => k < ts.length) B σ tv H _ Low.self hh fun s t H1 ⟨q1, q2⟩ hh1 => ?_
  cases t with
  | true => exact iteT (q1 rfl B σ tv H1 D hh1 k)
  | false => exact iteF (q2 rfl B σ tv H1 D hh1 k)
/-- name = e -/
theorem s1_set {i : Nat} {x : Str} {pos' : Pos} (hN : X.N.Nodup) (hi : X.N[i]? = some x) (hx : Loc X.env.scope x) (hfx : i ∉ fx) (hil : (ss[i]?).isSome = true)
    (h : EV X e ss ts fun s r => s.length = ss.length ∧ noView (.v i) (r :: ts) = true ∧ E.nx ((s.map (kill (.v i))).set i r)) (hs : swapsWith e (some (.Name x pos')) pos.line X.env = pure false := by rfl)
    (hf : X.fn x = true ∨ X.env.scope.names.lookup x = some .local := by first | exact .inl rfl | exact .inr rfl | assumption) : S1 X fx (.Assign [.Name x pos'] e pos) ss ts E := fun B σ tv H D hh k => by
  refine toS (ps_set hN hi hx pe_w hs hf) ?_
  refine h (fun k => k < ts.length) B σ tv H _ Low.self hh fun s r v H' ⟨l, n1, q⟩ h' => ?_
  refine k.nx _ _ H' q (h'.assign Low.self (by rw [l]; exact isSome_lt hil) (noView_tail n1) (noView_head n1)) fun j hj => ?_
  exact List.getElem?_set_ne (fun z => by subst z; exact hfx hj)

/-! ### targets -/
theorem gv_name {i : Nat} {x : Str} {s : Slot} {as : List Nat} {N : List Slot → Prop} (hN : X.N.Nodup) (hi : X.N[i]? = some x) (hx : Loc X.env.scope x) (ha : i ∈ as) (hil : (ss[i]?).isSome = true) (n1 : noView (.v i) (s :: ts) = true)
    (q : N ((ss.map (kill (.v i))).set i s)) (hf : X.fn x = true ∨ X.env.scope.names.lookup x = some .local := by first | exact .inl rfl | exact .inr rfl | assumption) : GV X (.Name x pos) as (.one s) ss ts N := fun m B σ tv H v Q hm hh k =>
  toG (pg_name hN hi hx hf) (k _ _ H q (Held.assign hh hm (isSome_lt hil) (noView_tail n1) (noView_head n1)) ⟨fun j hj => List.getElem?_set_ne (fun z => by subst z; exact hj ha), by simp⟩)
/-- a, b = a pair that a loop gives -/
theorem gv_two {i j : Nat} {x y : Str} {s1 s2 : Slot} {as : List Nat} {k : Nat} {px py : Pos} {N : List Slot → Prop} (hc : X.calm = true) (hN : X.N.Nodup) (hi : X.N[i]? = some x) (hj : X.N[j]? = some y) (hij : i ≠ j) (hx : Loc X.env.scope x) (hy : Loc X.env.scope y)
    (ha : i ∈ as) (hb : j ∈ as) (hil : (ss[i]?).isSome = true) (hjl : (ss[j]?).isSome = true) (n1 : noView (.v i) (s1 :: ts) = true) (n2 : noView (.v j) (s2 :: s1 :: ts) = true)
    (q : N ((((ss.map (kill (.v j))).set j s2).map (kill (.v i))).set i s1))
    (hf : X.fn x = true ∨ X.env.scope.names.lookup x = some .local := by first | exact .inl rfl | exact .inr rfl | assumption) (hg : X.fn y = true ∨ X.env.scope.names.lookup y = some .local := by first | exact .inl rfl | exact .inr rfl | assumption)
    (hn : (assignEach [.Name x px, .Name y py] X.env).length = 2 := by rfl) (hst : (assignEach [.Name x px, .Name y py] X.env).findIdx? (·.1) = none := by rfl)
    (hs1 : (assignEach [.Name x px, .Name y py] X.env).map (·.2) = assign (.Name x px) X.env :: (assignEach [.Name y py] X.env).map (·.2) := by rfl) (hs2 : (assignEach [.Name y py] X.env).map (·.2) = assign (.Name y py) X.env :: (assignEach [] X.env).map (·.2) := by rfl) :
    GV X (.Tuple [.Name x px, .Name y py] k pos) as (.two s1 s2) ss ts N := fun m B σ tv H v Q hm hh kk => by
  obtain ⟨T, x1, x2, rfl, sq, h⟩ := hh
  refine toG (pg_tup hc (pgs_cons (pg_name hN hi hx hf) (pgs_cons (pg_name hN hj hy hg) pgs_nil hs2) hs1) hn hst) ?_
  refine ⟨T, [x1, x2], rfl, sq, rfl, x1, [x2], rfl, x2, [], rfl, rfl, ?_⟩
  have a1 := (List.mem_cons_self : s2 ∈ s2 :: s1 :: ts)
  have h1 := Held.assign h hm.up (isSome_lt hjl) (by
    cases s2 <;> first | exact n2 | (have z := n2; unfold noView at z; rw [Bool.and_eq_true] at z; exact z.2)) (fun d z => noView_mem n2 _ a1 d z)
  have h2 := Held.assign h1 hm (by simpa using isSome_lt hil) (by
    cases s1 <;> first | exact n1 | (have z := n1; unfold noView at z; rw [Bool.and_eq_true] at z; exact z.2)) (fun d z => noView_mem n1 _ List.mem_cons_self d z)
  have e : (σ.set i (some x1)).set j (some x2) = (σ.set j (some x2)).set i (some x1) := List.set_comm _ _ hij
  show Q ((σ.set i (some x1)).set j (some x2)) H
  rw [e]
  refine kk _ _ H q h2 ⟨fun l hl => ?_, by simp⟩
  rw [List.getElem?_set_ne (fun z => by subst z; exact hl ha), List.getElem?_set_ne (fun z => by subst z; exact hl hb)]

/-! ### loops -/
theorem s1_for {as : List Nat} (hp : PassesOwn (model X.prog X.w) X.A X.env X.xe) (hc : X.calm = true) (hfx : ∀ i, i ∈ fx → i ∉ as)
    (h : IV X tg it ss ts fun s1 rs els => ∃ I : Nat → List Slot → Prop, I 0 s1 ∧
      (∀ i el s, els[i]? = some el → I i s → GV X tg as el s (rs ++ ts) fun s' => SV X fx sts s' (rs ++ ts)
        { nx := I (i + 1), ct := I (i + 1), bk := fun s => E.nx (s.map (killT ts.length)), rt := fun s r => ∃ d, r = .own d ∧ E.rt (s.map (killT ts.length)) (.own d) }) ∧
      ∀ s, I els.length s → E.nx (s.map (killT ts.length)))
    (hs : ∀ x, foldedSetIterable it X.env x = pure x := by intro _; rfl) : S1 X fx (.For tg it sts [] pos) ss ts E := fun B σ tv H D hh k => by
  refine toS (ps_for hp hc pi_w pg_w pss_w hs) ?_
  refine h (fun k => k < ts.length) B σ tv H _ Low.self hh fun s1 rs rv els J H1 ⟨I, i0, step, fin⟩ rl h1 io => ?_
  have low := h1.vok
  have len : (rs ++ ts).length = ts.length + rs.length := by rw [List.length_append]; omega
  refine ⟨fun i n σ' H' => n = els.length - i ∧ i ≤ els.length ∧ (∀ i, i ∈ fx → σ'[i]? = σ[i]?) ∧ ∃ s, I i s ∧ Held X.K (fun k => k < (rs ++ ts).length) B H' σ' s (rv ++ tv) (rs ++ ts),
    ⟨_, rfl, Nat.zero_le _, fun _ _ => rfl, s1, i0, h1.more (fun k q => by omega) Low.self⟩, ?_⟩
  rintro i n σ' H' ⟨rfl, hi, hz, s, hI, h'⟩
  obtain ⟨go, stop⟩ := io _ _ _ _ _ [] [] _ _ h' rfl rfl (fun k _ q => by omega)
  have leave : ∀ {s σ2 H2}, Held X.K (fun k => k < (rs ++ ts).length) B H2 σ2 s (rv ++ tv) (rs ++ ts) → Held X.K (fun k => k < ts.length) B H2 σ2 (s.map (killT ts.length)) tv ts := fun h => (h.less (fun _ _ q => q) (Low.self.app rs) low).popN rl Low.self
  by_cases hlt : i < els.length
  · obtain ⟨el, he⟩ : ∃ el, els[i]? = some el := ⟨els[i], by simp [hlt]⟩
    obtain ⟨g1, g2⟩ := go i el he
    refine .inr ⟨g1, fun σ2 H2 => (∀ i, i ∈ fx → σ2[i]? = σ[i]?) ∧ ∃ s, I (i + 1) s ∧ Held X.K (fun k => k < (rs ++ ts).length) B H2 σ2 s (rv ++ tv) (rs ++ ts), fun σ2 H2 ⟨z2, q2⟩ => ⟨els.length - (i + 1), by omega, rfl, hlt, z2, q2⟩, fun x H2 y => ?_⟩
    refine step i el s he hI _ B σ' (rv ++ tv) H2 x _ Low.self (g2 x H2 y) fun s3 σ3 H3 q3 h3 z3 => ?_
    have z4 : ∀ i, i ∈ fx → σ3[i]? = σ[i]? := fun j hj => (z3.1 j (hfx j hj)).trans (hz j hj)
    refine q3 B σ3 (rv ++ tv) H3 _ h3 ⟨fun s5 σ5 H5 q5 h5 z5 => ⟨fun j hj => (z5 j hj).trans (z4 j hj), s5, q5, h5⟩, fun s5 r5 σ5 v5 H5 ⟨d5, e5, q5⟩ h5 z5 => ?_, fun s5 σ5 H5 q5 h5 z5 => k.nx _ σ5 H5 q5 (leave h5) fun j hj => (z5 j hj).trans (z4 j hj),
      fun s5 σ5 H5 q5 h5 z5 => ⟨fun j hj => (z5 j hj).trans (z4 j hj), s5, q5, h5⟩⟩
    subst e5
    refine k.rt _ _ σ5 v5 H5 q5 (Held.under (rv := rv) (rs := rs) (h5.less (m := fun k => k < ts.length) (n := ts.length) (fun _ _ q => q) (Low.self.app (.own d5 :: rs)) (fun s hs => by
      rcases List.mem_cons.mp hs with rfl | hs
      · exact fun _ _ z => nomatch z
      · exact low s hs)) rl Low.self) fun j hj => (z5 j hj).trans (z4 j hj)
  · have e : i = els.length := by omega
    subst e
    exact .inl ⟨stop _ (Nat.le_refl _), k.nx _ σ' H' (fin s hI) (leave h') hz⟩
theorem s1_while (I : Nat → List Slot → Prop) (hp : PassesOwn (model X.prog X.w) X.A X.env X.xe) (i0 : ∃ n, I n ss)
    (h : ∀ n s, I n s → TV X c s ts fun s' t => (t = true → SV X fx sts s' ts { E with nx := fun s2 => ∃ n', n' < n ∧ I n' s2, ct := fun s2 => ∃ n', n' < n ∧ I n' s2, bk := E.nx }) ∧ (t = false → E.nx s')) :
    S1 X fx (.While c sts [] pos) ss ts E := fun B σ tv H D hh k => by
  refine toS (ps_while hp pt_w pss_w) ?_
  obtain ⟨n0, i0⟩ := i0
  refine ⟨fun n σ' H' => (∀ i, i ∈ fx → σ'[i]? = σ[i]?) ∧ ∃ s, I n s ∧ Held X.K (fun k => k < ts.length) B H' σ' s tv ts, ⟨n0, fun _ _ => rfl, ss, i0, hh⟩, ?_⟩
  rintro n σ' H' ⟨z, s, hI, h'⟩
  refine h n s hI (fun k => k < ts.length) B σ' tv H' _ Low.self h' fun s1 t H1 ⟨q1, q2⟩ h1 => ?_
  cases t with
  | true =>
    refine iteT ⟨fun σ2 H2 => ∃ n', n' < n ∧ (∀ i, i ∈ fx → σ2[i]? = σ[i]?) ∧ ∃ s, I n' s ∧ Held X.K (fun k => k < ts.length) B H2 σ2 s tv ts, fun σ2 H2 q => q, ?_⟩
    refine q1 rfl B σ' tv H1 _ h1 ⟨fun s5 σ5 H5 ⟨n', l, q5⟩ h5 z5 => ⟨n', l, fun j hj => (z5 j hj).trans (z j hj), s5, q5, h5⟩, fun s5 r5 σ5 v5 H5 q5 h5 z5 => k.rt _ _ σ5 v5 H5 q5 h5 fun j hj => (z5 j hj).trans (z j hj),
      fun s5 σ5 H5 q5 h5 z5 => k.nx _ σ5 H5 q5 h5 fun j hj => (z5 j hj).trans (z j hj), fun s5 σ5 H5 ⟨n', l, q5⟩ h5 z5 => ⟨n', l, fun j hj => (z5 j hj).trans (z j hj), s5, q5, h5⟩⟩
  | false => exact iteF (k.nx _ σ' H1 (q2 rfl) h1 z)

/-! ### displays -/
theorem ev_tup {es : List Expr} {k : Nat} (h : AV X es ss ts fun s rs => ∃ ds, rs = ds.map Slot.own ∧ ds.length ≤ 1000 ∧ Φ s (.own (.tup ds))) (ht : ∀ t, PA X es t → PE X (.Tuple es k pos) (tTup t) := by intro t h; exact pe_tup h) : EV X (.Tuple es k pos) ss ts Φ := fun m B σ tv H Q hm hh kk => by
  refine toE (ht _ pa_w) ?_
  refine h m B σ tv H _ hm hh fun s rs vs H1 ⟨ds, e, hl, q⟩ l1 l2 hh1 => ?_
  subst e
  obtain ⟨fp, hf⟩ := hh1
  rw [← List.map_reverse] at hf
  obtain ⟨fp', F, h2, _, r2, n2, o2, b2, _⟩ := HeldF.gather ds.reverse (vs := vs.reverse) (by simpa using l1) hf hm
  rw [List.reverse_reverse, List.reverse_reverse] at r2
  have lv : vs.length = ds.length := by simpa using l1
  refine ⟨Nat.le_trans (by omega : vs.length ≤ 1000) (by decide), fun p hp => ?_⟩
  have ex := Ex.new (o := .tup vs) hp
  refine kk s _ (.ref p) _ q ⟨_, (h2.ex ex).push (F := F) ?_ n2 (fun a ha o _ => o2 a ha o) b2⟩
  unfold RepO
  exact ⟨p, vs, rfl, .inl (.inl upd_same), r2.frame ex.tk fun a ha => by
    obtain ⟨u, e, _⟩ := r2.dom a ha
    rw [e, ex a u e]⟩
theorem ev_lst {es : List Expr} {k : Pos} (h : AV X es ss ts fun s rs => ∃ ds, rs = ds.map Slot.own ∧ ds.length ≤ 1000 ∧ Φ s (.own (.lst ds))) : EV X (.List es k) ss ts Φ := fun m B σ tv H Q hm hh kk => by
  refine toE (pe_lst pa_w) ?_
  refine h m B σ tv H _ hm hh fun s rs vs H1 ⟨ds, e, hl, q⟩ l1 l2 hh1 => ?_
  subst e
  obtain ⟨fp, hf⟩ := hh1
  rw [← List.map_reverse] at hf
  obtain ⟨fp', F, h2, _, r2, n2, o2, b2, _⟩ := HeldF.gather ds.reverse (vs := vs.reverse) (by simpa using l1) hf hm
  rw [List.reverse_reverse, List.reverse_reverse] at r2
  have lv : vs.length = ds.length := by simpa using l1
  refine ⟨Nat.le_trans (by omega : vs.length ≤ 1000) (by decide), fun p hp => ?_⟩
  have ex := Ex.new (o := .lst vs) hp
  have np : ∀ o, p ∉ fp' o := fun o z => by
    obtain ⟨u, e, _⟩ := h2.dom o p z
    rw [hp] at e
    cases e
  have npF : p ∉ F := fun z => by
    obtain ⟨u, e, _⟩ := r2.dom p z
    rw [hp] at e
    cases e
  have pB : B p = none := by
    cases z : B p with
    | none => rfl
    | some u =>
      have q := h2.base p u z
      rw [hp] at q
      cases q
  refine kk s _ (.ref p) _ q ⟨_, (h2.ex ex).push (F := p :: F) ?_ (List.nodup_cons.mpr ⟨npF, n2⟩) (fun a ha o _ => ?_) fun a ha => ?_⟩
  · unfold RepO
    exact ⟨p, vs, F, rfl, upd_same, rfl, r2.frame ex.tk fun a ha => by
      obtain ⟨u, e, _⟩ := r2.dom a ha
      rw [e, ex a u e]⟩
  · rcases List.mem_cons.mp ha with rfl | ha
    · exact np o
    · exact o2 a ha o
  · rcases List.mem_cons.mp ha with rfl | ha
    · exact pB
    · exact b2 a ha

/-! ### a def's promise -/
/-- what a call with such slots comes to -/
abbrev FSp := List Slot → (List Slot → D → Prop) → Prop
def spG (K : PySem.W.Frag) (F : FSp) : Sp := fun vs H Q _ => ∃ B ss, Held K (fun k => k < 0) B H (vs.map some) ss [] [] ∧ F ss fun ss' d => ∀ r H', Held K (fun k => k < 0) B H' (vs.map some) ss' [r] [.own d] → Q r H'
/-- no argument is changed -/
def fP (F : List D → (D → Prop) → Prop) : FSp := fun ss q => ∃ (ds : List D) (k : D → Prop), ss = ds.map Slot.par ∧ F ds k ∧ ∀ d, k d → q ss d
abbrev spP (K : PySem.W.Frag) (F : List D → (D → Prop) → Prop) : Sp := spG K (fP F)

theorem Held.args {K : PySem.W.Frag} {m : Nat → Prop} {B H : Hp} {σ : List (Option V)} {tv : List V} : ∀ {rs : List Slot} {vs : List V} {ds : List D}, vs.length = rs.length → Held K m B H σ ss (vs ++ tv) (rs ++ ts) → List.length rs = ds.length → (∀ i (h : i < rs.length) (h' : i < ds.length), rs[i].is ds[i]) → Low m ts.length → RepRs K H ds vs
  | [], [], [], _, _, _, _, _ => by unfold RepRs; rfl
  | r :: rs, v :: vs, d :: ds, e, h, l, q, hm => by
    unfold RepRs
    refine ⟨v, vs, rfl, Held.top h (q 0 (by simp) (by simp)), Held.args (rs := rs) (vs := vs) (ds := ds) (by simpa using e) (Held.pop h (hm.app _)) (by simpa using l) (fun i h1 h2 => ?_) hm⟩
    have := q (i + 1) (by simpa using h1) (by simpa using h2)
    simpa using this
  | [], _ :: _, _, e, _, _, _, _ => nomatch e
  | _ :: _, [], _, e, _, _, _, _ => nomatch e
  | _ :: _, _ :: _, [], _, _, l, _, _ => nomatch l
  | [], [], _ :: _, _, _, l, _, _ => nomatch l

/-- slots of data from outside -/
theorem held_par {K : PySem.W.Frag} {H : Hp} {ds : List D} {vs : List V} (h : RepRs K H ds vs) : Held K (fun k => k < 0) H H (vs.map some) (ds.map Slot.par) [] [] := by
  refine ⟨fun _ => [], Ex.refl H, by simp [h.length], rfl, Low.self, fun i s e => ?_, (fun k s e => by simp at e), (fun _ _ _ z => nomatch z), (fun _ => List.nodup_nil), (fun _ _ z => nomatch z), (fun _ _ z => nomatch z)⟩
  rw [List.getElem?_map] at e
  cases e1 : ds[i]? with
  | none => rw [e1] at e; cases e
  | some d =>
    rw [e1] at e
    have e2 : Slot.par d = s := Option.some.inj e
    subst e2
    obtain ⟨w, e3, e4⟩ := h.get e1
    refine ⟨w, ?_, e4⟩
    rw [List.getElem?_map, e3]
    rfl
end

section
variable {P : Program} {w : World} {K : PySem.W.Frag} {mg : Str → Option Value} {base : Heap}
/-- a def's promise by its body (nothing is raised) -/
theorem fun_ok {CX : CXT} {x qual : Str} {st : Stmt} {dvs : List V} {f : Addr} {fd : FuncData} {N ps : List Str} {k : Nat} {F : FSp} (fx : List Nat) (Fn : FunD K x qual (defArgs st) (defBody st) (defScope st) dvs [] f fd) (S : FnScope N ps (defScope st))
    (len : ∀ ss q, F ss q → ss.length = ps.length)
    (hbody : ∀ (cdv : Value) (A : Around) (outer : List Env) (s : Shared) (H : Hp) (E : XK), Room k (A.deeper (envOfC qual (defScope st) s.heap.objs.size f cdv)) → ∀ ss q, F ss q →
      SV (cxOf CX P w K mg base N qual (defScope st) f cdv A outer s H E).nox fx (defBody st) (ss ++ List.replicate (N.length - ps.length) .no) []
        { nx := fun s => (∀ i, i < ps.length → i ∉ fx → ∃ d, ss[i]? = some (.par d)) ∧ q (ss.zipIdx.map fun p => if p.2 ∈ fx then (s[p.2]?).getD .no else p.1) .non,
          rt := fun s r => (∀ i, i < ps.length → i ∉ fx → ∃ d, ss[i]? = some (.par d)) ∧ ∃ d, r = .own d ∧ q (ss.zipIdx.map fun p => if p.2 ∈ fx then (s[p.2]?).getD .no else p.1) d }) :
    FnOk P w K mg base CX (k + 1) f fd ps (spG K F) := by
  refine Fn.ok S (fun vs H Q E h => ?_) fun cdv A outer s H vs Q E hr h => ?_
  · obtain ⟨B, ss, ⟨fp, hh⟩, hF⟩ := h
    have l1 := len ss _ hF
    have l2 := hh.slen
    rw [List.length_map] at l2
    omega
  · obtain ⟨B, ss, hh, hF⟩ := h
    have l1 := len ss _ hF
    obtain ⟨fp, hf⟩ := hh
    have l2 := hf.slen
    rw [List.length_map] at l2
    refine ⟨_, PSs.nox pss_w, ?_⟩
    have st0 : start N vs = vs.map some ++ List.replicate (N.length - vs.length) none := rfl
    have lv : vs.length = ps.length := by omega
    -- the entry
    have h0 : Held K (fun k => k < 0) B H (start N vs) (ss ++ List.replicate (N.length - ps.length) .no) [] [] := by
      refine ⟨fp, hf.base, ?_, rfl, Low.self, fun i s e => ?_, fun k s e => by simp at e, hf.disj, hf.nod, hf.out, hf.dom⟩
      · rw [st0, List.length_append, List.length_append, List.length_map, List.length_replicate, List.length_replicate, lv, l1]
      · by_cases hi : i < ss.length
        · rw [List.getElem?_append_left hi] at e
          rw [st0, List.getElem?_append_left (by simpa [l2] using hi)]
          exact hf.var i s e
        · rw [List.getElem?_append_right (Nat.le_of_not_lt hi)] at e
          have e2 : s = .no := by
            rw [List.getElem?_replicate] at e
            split at e
            · exact (Option.some.inj e).symm
            · cases e
          subst e2
          trivial
    -- what is handed back
    have back : ∀ (s2 : List Slot) (σ2 : List (Option V)) (H2 : Hp) (v : V) (d : D), (∀ i, i < ps.length → i ∉ fx → ∃ d, ss[i]? = some (.par d)) → Held K (fun k => k < 0) B H2 σ2 s2 [v] [.own d] → (∀ i, i ∈ fx → σ2[i]? = (start N vs)[i]?) →
        Held K (fun k => k < 0) B H2 (vs.map some) (ss.zipIdx.map fun p => if p.2 ∈ fx then (s2[p.2]?).getD .no else p.1) [v] [.own d] := by
      rintro s2 σ2 H2 v d hpar ⟨fp2, h2⟩ hz
      refine ⟨fp2, h2.base, by simp [l2], h2.tlen, fun _ z => absurd z (Nat.not_lt_zero _), fun i s e => ?_, h2.tmp, h2.disj, h2.nod, h2.out, h2.dom⟩
      rw [List.getElem?_map] at e
      cases e1 : (ss.zipIdx)[i]? with
      | none => rw [e1] at e; cases e
      | some p =>
        rw [e1] at e
        have e2 : (if p.2 ∈ fx then (s2[p.2]?).getD .no else p.1) = s := Option.some.inj e
        rw [List.getElem?_zipIdx] at e1
        cases e3 : ss[i]? with
        | none => rw [e3] at e1; cases e1
        | some s0 =>
          rw [e3] at e1
          have e4 : (s0, 0 + i) = p := Option.some.inj e1
          subst e4
          have hi : i < ss.length := (List.getElem?_eq_some_iff.mp e3).1
          simp only [Nat.zero_add] at e2
          by_cases hfx : i ∈ fx
          · rw [if_pos hfx] at e2
            have e5 : (vs.map some)[i]? = σ2[i]? := by
              rw [hz i hfx, st0, List.getElem?_append_left (by simpa [l2] using hi)]
            rw [e5]
            cases e6 : s2[i]? with
            | none =>
              rw [e6] at e2
              have e7 : Slot.no = s := e2
              subst e7
              trivial
            | some s3 =>
              rw [e6] at e2
              have e7 : s3 = s := e2
              subst e7
              exact h2.var i _ e6
          · rw [if_neg hfx] at e2
            subst e2
            obtain ⟨d0, q0⟩ := hpar i (by omega) hfx
            rw [e3] at q0
            cases q0
            obtain ⟨u, z1, z2⟩ := hf.var i _ e3
            exact ⟨u, z1, z2⟩
    refine hbody cdv A outer s H E hr ss _ hF B (start N vs) [] H _ h0 ⟨fun s2 σ2 H2 ⟨hp, q⟩ h2 z => ?_, fun s2 r σ2 v H2 ⟨hp, d, e, q⟩ h2 z => ?_, fun _ _ _ z => z.elim, fun _ _ _ z => z.elim⟩
    · exact q .non H2 (back s2 σ2 H2 .non .non hp (h2.pushF o_non) z)
    · subst e
      exact q v H2 (back s2 σ2 H2 v d hp h2 z)
/-- .. where no argument is changed -/
theorem fun_okP {CX : CXT} {x qual : Str} {st : Stmt} {dvs : List V} {f : Addr} {fd : FuncData} {N ps : List Str} {k : Nat} {F : List D → (D → Prop) → Prop} (Fn : FunD K x qual (defArgs st) (defBody st) (defScope st) dvs [] f fd) (S : FnScope N ps (defScope st))
    (len : ∀ ds q, F ds q → ds.length = ps.length)
    (hbody : ∀ (cdv : Value) (A : Around) (outer : List Env) (s : Shared) (H : Hp) (E : XK), Room k (A.deeper (envOfC qual (defScope st) s.heap.objs.size f cdv)) → ∀ ds (q : D → Prop), F ds q →
      SV (cxOf CX P w K mg base N qual (defScope st) f cdv A outer s H E).nox [] (defBody st) (ds.map Slot.par ++ List.replicate (N.length - ps.length) .no) []
        { nx := fun _ => q .non, rt := fun _ r => ∃ d, r = .own d ∧ q d }) :
    FnOk P w K mg base CX (k + 1) f fd ps (spP K F) := by
  refine fun_ok [] Fn S (fun ss q ⟨ds, k, e, h, _⟩ => ?_) fun cdv A outer s H E hr ss q ⟨ds, k, e, h, kq⟩ => ?_
  · rw [e, List.length_map]
    exact len ds _ h
  · subst e
    have l := len ds _ h
    have hpar : ∀ i, i < ps.length → i ∉ ([] : List Nat) → ∃ d, (ds.map Slot.par)[i]? = some (.par d) := fun i hi _ => ⟨ds[i]'(by omega), by simp [show i < ds.length by omega]⟩
    have same : ∀ s : List Slot, ((ds.map Slot.par).zipIdx.map fun p => if p.2 ∈ ([] : List Nat) then (s[p.2]?).getD .no else p.1) = ds.map Slot.par := fun s => by
      refine List.ext_getElem? fun i => ?_
      rw [List.getElem?_map, List.getElem?_zipIdx]
      cases (ds.map Slot.par)[i]? with
      | none => rfl
      | some z => rfl
    intro B σ tv H0 D hh kk
    refine hbody cdv A outer s H E hr ds _ h B σ tv H0 D hh ⟨fun s2 σ2 H2 q2 h2 z => kk.nx s2 σ2 H2 ⟨hpar, by rw [same]; exact kq _ q2⟩ h2 z, fun s2 r σ2 v H2 ⟨d, e, q2⟩ h2 z => kk.rt s2 r σ2 v H2 ⟨hpar, d, e, by rw [same]; exact kq _ q2⟩ h2 z, fun _ _ _ z => z.elim, fun _ _ _ z => z.elim⟩
end
end DL
/-! The data layer, part 5: what is walked, comprehensions, calls, subscripts. -/
namespace DL
open PySem PySem.Spec PyProof.Rows L2

theorem rev_at {α : Type} {es ts : List α} {r : α} : (es ++ (r :: ts)).reverse[ts.length]? = some r := by
  rw [List.reverse_append, List.reverse_cons, List.append_assoc, List.getElem?_append_right (by simp)]
  simp
/-- an item of a list that stands on the way -/
def sub (n : Nat) (r : Slot) (d : D) : Slot := match r with
  | .own _ => .view (.t n) d
  | .par _ => .par d
  | .view o _ => .view o d
  | .no => .no
theorem sub_own {n : Nat} {r : Slot} {d d' : D} : sub n r d ≠ .own d' := by
  cases r <;> exact fun z => nomatch z
section
variable {K : PySem.W.Frag} {m : Nat → Prop} {B H H' : Hp} {σ : List (Option V)} {ss ts rs es : List Slot} {tv rv ev vs : List V} {v w : V} {s r : Slot} {d d' : D} {ds : List D} {a : Addr}
theorem HeldF.at {fp : Own → List Addr} (h : HeldF K m B H fp σ ss (ev ++ (v :: tv)) (es ++ (r :: ts))) (e : ev.length = es.length) : SlotOk K B H fp m (.t ts.length) (some v) r := by
  have hl : tv.length = ts.length := by
    have z := h.tlen
    simp only [List.length_append, List.length_cons] at z
    omega
  have z := h.tmp ts.length r rev_at
  rw [← hl, rev_at, hl] at z
  exact z
/-- the items of data that stand in a slot -/
theorem SlotOk.item {fp : Own → List Addr} {n : Nat} (h : SlotOk K B H fp m (.t n) (some v) r) (b : Ex B H) (hr : r.is (.lst ds)) (hn : m n) :
    ∃ a vs, v = .ref a ∧ H a = some (.lst vs) ∧ vs.length = ds.length ∧ ∀ (i : Nat) (d : D), ds[i]? = some d → ∃ w, vs[i]? = some w ∧ RepR K H d w ∧ SlotOk K B H fp m (.t n) (some w) (sub n r d) := by
  rcases hr with rfl | rfl | ⟨o', rfl⟩
  · obtain ⟨w, e1, e2⟩ := h
    cases e1
    have q := e2.toR (P := fun a => a ∈ fp (.t n) ∨ (B a).isSome = true) fun a ha => .inl ha
    unfold RepR at q
    obtain ⟨a, vs, rfl, e3, e4⟩ := q
    refine ⟨a, vs, rfl, restr_ex _ _ e3, e4.length, fun i d hd => ?_⟩
    obtain ⟨w, h1, h2⟩ := e4.get hd
    exact ⟨w, h1, h2.mono restr_ex, hn, w, rfl, h2⟩
  · obtain ⟨w, e1, e2⟩ := h
    cases e1
    unfold RepR at e2
    obtain ⟨a, vs, rfl, e3, e4⟩ := e2
    refine ⟨a, vs, rfl, b _ _ e3, e4.length, fun i d hd => ?_⟩
    obtain ⟨w, h1, h2⟩ := e4.get hd
    exact ⟨w, h1, h2.mono b, w, rfl, h2⟩
  · obtain ⟨z, w, e1, e2⟩ := h
    cases e1
    unfold RepR at e2
    obtain ⟨a, vs, rfl, e3, e4⟩ := e2
    refine ⟨a, vs, rfl, restr_ex _ _ e3, e4.length, fun i d hd => ?_⟩
    obtain ⟨w, h1, h2⟩ := e4.get hd
    exact ⟨w, h1, h2.mono restr_ex, z, w, rfl, h2⟩
theorem getElem?_lt {α : Type} {l : List α} {i : Nat} {x : α} (h : l[i]? = some x) : i < l.length := (List.getElem?_eq_some_iff.mp h).1
end

section
variable {X : Cx} {fx : List Nat} {ss ts : List Slot} {Φ : List Slot → Slot → Prop} {e a b c tg it : Expr} {es : List Expr} {pos p2 : Pos} {E : DE} {Ψ : List Slot → List Slot → List El → Prop}

/-! ### what is walked -/
theorem iv_range1 {a : Expr} {p : Pos} (hg : Gl X "range") (hm : X.mg "range" = none) (h : EV X a ss ts fun s r => ∃ j : Int, r.is (.int j) ∧ -(2 ^ 62) ≤ j ∧ j < 2 ^ 62 ∧ Ψ s [] ((List.range j.toNat).map fun k => .one (.own (.int ((k : Nat) : Int)))))
    (hs : starEach [a] X.env = [(false, eval a X.env)] := by rfl) : IV X tg (.Call (.Name "range" p) [a] [] pos) ss ts Ψ := fun m B σ tv H R hm' hh k => by
  refine toI (pi_range1 hg hm (pa_cons pe_w pa_nil hs) hs) ?_
  refine h m B σ tv H _ hm' hh fun s r x H1 ⟨j, e1, l, u, q⟩ h1 => ?_
  have z := h1.top e1
  rw [rep_int] at z
  refine ⟨j, by rw [z], l, u, k s [] [] _ _ H1 q rfl (h1.pop hm') ?_⟩
  intro m' B' H' σ' ss' ev es tv' ts' h' hlen hl hmm
  refine ⟨fun i el he => ?_, fun i hi => ?_⟩
  · rw [List.getElem?_map] at he
    cases e2 : (List.range j.toNat)[i]? with
    | none => rw [e2] at he; cases he
    | some k' =>
      rw [e2] at he
      have e3 : El.one (.own (.int ((k' : Nat) : Int))) = el := Option.some.inj he
      subst e3
      obtain ⟨hi, e4⟩ := List.getElem?_eq_some_iff.mp e2
      simp at e4 hi
      subst e4
      refine ⟨(by show i < j.toNat; omega), fun x H2 y => ?_⟩
      obtain ⟨y1, y2⟩ := y
      subst y1 y2
      have z : (0 : Int) + ((i : Nat) : Int) = ((i : Nat) : Int) := by omega
      show Held _ _ _ _ _ _ _ _
      rw [z]
      exact h'.pushF o_int
  · show j.toNat ≤ i
    simpa using hi
theorem iv_range2 {a b : Expr} {p : Pos} (hg : Gl X "range") (hm : X.mg "range" = none) (h : EV X a ss ts fun s1 r1 => EV X b s1 (r1 :: ts) fun s r => ∃ i j : Int, r1.is (.int i) ∧ r.is (.int j) ∧ (-(2 ^ 62) ≤ i ∧ i < 2 ^ 62 ∧ -(2 ^ 62) ≤ j ∧ j < 2 ^ 62) ∧ Ψ s [] ((List.range (j - i).toNat).map fun k => .one (.own (.int (i + ((k : Nat) : Int))))))
    (hs : starEach [a, b] X.env = [(false, eval a X.env), (false, eval b X.env)] := by rfl) (hs2 : starEach [b] X.env = [(false, eval b X.env)] := by rfl) : IV X tg (.Call (.Name "range" p) [a, b] [] pos) ss ts Ψ := fun m B σ tv H R hm' hh k => by
  refine toI (pi_range2 hg hm (pa_cons pe_w (pa_cons pe_w pa_nil hs2) (by rw [hs, hs2])) hs hs2) ?_
  refine h m B σ tv H _ hm' hh fun s r x H1 h1 hh1 => ?_
  refine h1 m B σ (x :: tv) H1 _ (hm'.up) hh1 fun s2 r2 y H2 ⟨i, j, e1, e2, l, q⟩ hh2 => ?_
  have z1 := hh2.top2 e1
  have z2 := hh2.top e2
  rw [rep_int] at z1 z2
  refine ⟨i, j, by rw [z1, z2], l, k s2 [] [] _ _ H2 q rfl ((hh2.pop (hm'.up)).pop hm') ?_⟩
  intro m' B' H' σ' ss' ev es tv' ts' h' hlen hl hmm
  refine ⟨fun n el he => ?_, fun n hn => ?_⟩
  · rw [List.getElem?_map] at he
    cases e2 : (List.range (j - i).toNat)[n]? with
    | none => rw [e2] at he; cases he
    | some k' =>
      rw [e2] at he
      have e3 : El.one (.own (.int (i + ((k' : Nat) : Int)))) = el := Option.some.inj he
      subst e3
      obtain ⟨hi, e4⟩ := List.getElem?_eq_some_iff.mp e2
      simp at e4 hi
      subst e4
      refine ⟨by show n < (j - i).toNat; omega, fun x H2 y => ?_⟩
      obtain ⟨y1, y2⟩ := y
      subst y1 y2
      exact h'.pushF o_int
  · show (j - i).toNat ≤ n
    simpa using hn
/-- what a walk over the list at the top of the stack yields -/
theorem iter_list {K : PySem.W.Frag} {n : Nat} {r : Slot} {a : Addr} {ds : List D} (hr : r.is (.lst ds)) (els : List El) (he : els.length = ds.length)
    (hel : ∀ (i : Nat) (d : D) (el : El), ds[i]? = some d → els[i]? = some el → (d.flat = true ∧ el = .one (.own d)) ∨ el = .one (sub n r d)) : IterOk K n (Itl K a) [r] [.ref a] els := by
  intro m' B' H' σ' ss' ev es tv' ts' h' hlen hl hmm
  obtain ⟨fp, hf⟩ := h'
  have hm' : m' n := hmm n (Nat.le_refl _) (by simp)
  have z := HeldF.at (v := .ref a) (r := r) (ts := ts') (tv := tv') hf hlen
  rw [hl] at z
  obtain ⟨a', vs, ea, e1, e2, e3⟩ := z.item hf.base hr hm'
  cases ea
  refine ⟨fun i el hi => ?_, fun i hi => ⟨vs, SqL.of e1, by omega⟩⟩
  have il := getElem?_lt hi
  obtain ⟨d, hd⟩ : ∃ d, ds[i]? = some d := ⟨ds[i]'(by omega), by simp [show i < ds.length by omega]⟩
  obtain ⟨w, h1, h2, h3⟩ := e3 i d hd
  refine ⟨⟨vs, w, SqL.of e1, h1⟩, fun x H2 y => ?_⟩
  obtain ⟨y1, y2⟩ := y
  subst y1
  have hx : x = w := by
    have := y2 vs (SqL.of e1)
    rw [h1] at this
    exact (Option.some.inj this).symm
  subst hx
  rcases hel i d el hd hi with ⟨fl, rfl⟩ | rfl
  · exact ⟨_, hf.pushF (h2.flatO fl)⟩
  · exact ⟨_, hf.pushV (fun _ => sub_own) h3⟩
theorem iv_list' {l : Expr} (h : EV X l ss ts fun s r => ∃ ds els, r.is (.lst ds) ∧ els.length = ds.length ∧ (∀ (i : Nat) (d : D) (el : El), ds[i]? = some d → els[i]? = some el → (d.flat = true ∧ el = .one (.own d)) ∨ el = .one (sub ts.length r d)) ∧ Ψ s [r] els) :
    IV X tg l ss ts Ψ := fun m B σ tv H R hm' hh k => by
  refine toI (pi_list pe_w) ?_
  refine h m B σ tv H _ hm' hh fun s r x H1 ⟨ds, els, e1, e2, e3, q⟩ h1 => ?_
  have z := h1.top e1
  unfold RepR at z
  obtain ⟨a, vs, rfl, z2, z3⟩ := z
  exact ⟨a, rfl, ⟨vs, SqL.of z2⟩, k s [r] [.ref a] els _ H1 q rfl h1 (iter_list e1 els e2 e3)⟩
/-- over a list of flat data -/
theorem iv_listF {l : Expr} (h : EV X l ss ts fun s r => ∃ ds, r.is (.lst ds) ∧ (∀ d ∈ ds, d.flat = true) ∧ Ψ s [r] (ds.map fun d => .one (.own d))) : IV X tg l ss ts Ψ :=
  iv_list' (h.imp fun s r ⟨ds, e1, e2, q⟩ => ⟨ds, _, e1, by simp, fun i d el hd he => .inl ⟨e2 d (List.mem_of_getElem? hd), by
    rw [List.getElem?_map, hd] at he
    exact (Option.some.inj he).symm⟩, q⟩)
/-- over a list of lists -/
theorem iv_list {l : Expr} (h : EV X l ss ts fun s r => ∃ ds, r.is (.lst ds) ∧ Ψ s [r] (ds.map fun d => .one (sub ts.length r d))) : IV X tg l ss ts Ψ :=
  iv_list' (h.imp fun s r ⟨ds, e1, q⟩ => ⟨ds, _, e1, by simp, fun i d el hd he => .inr (by
    rw [List.getElem?_map, hd] at he
    exact (Option.some.inj he).symm), q⟩)
/-- enumerate(list) -/
theorem iv_enum' {l : Expr} {p tpos : Pos} {elts : List Expr} {kk : Nat} (hg : Gl X "enumerate") (hm : X.mg "enumerate" = none)
    (h : EV X l ss ts fun s r => ∃ ds els, r.is (.lst ds) ∧ els.length = ds.length ∧ (∀ (i : Nat) (d : D) (el : El), ds[i]? = some d → els[i]? = some el → (d.flat = true ∧ el = .two (.own (.int ((i : Nat) : Int))) (.own d)) ∨ el = .two (.own (.int ((i : Nat) : Int))) (sub ts.length r d)) ∧ Ψ s [r] els)
    (hs : starEach [l] X.env = [(false, eval l X.env)] := by rfl) : IV X (.Tuple elts kk tpos) (.Call (.Name "enumerate" p) [l] [] pos) ss ts Ψ := fun m B σ tv H R hm' hh k => by
  refine toI (pi_enum hg hm (pa_cons pe_w pa_nil hs) hs) ?_
  refine h m B σ tv H _ hm' hh fun s r x H1 ⟨ds, els, e1, e2, hel, q⟩ h1 => ?_
  have z := h1.top e1
  unfold RepR at z
  obtain ⟨a, vs, rfl, z2, z3⟩ := z
  refine ⟨a, vs, rfl, SqL.of z2, k s [r] [.ref a] els _ H1 q rfl h1 ?_⟩
  intro m' B' H' σ' ss' ev es tv' ts' h' hlen hl hmm
  obtain ⟨fp, hf⟩ := h'
  have hm' : m' ts.length := hmm _ (Nat.le_refl _) (by simp)
  have z := HeldF.at (v := .ref a) (r := r) (ts := ts') (tv := tv') hf hlen
  rw [hl] at z
  obtain ⟨a', vs, ea, e1', e2', e3⟩ := z.item hf.base e1 hm'
  cases ea
  refine ⟨fun i el hi => ?_, fun i hi => ⟨vs, SqL.of e1', by omega⟩⟩
  have il := getElem?_lt hi
  obtain ⟨d, hd⟩ : ∃ d, ds[i]? = some d := ⟨ds[i]'(by omega), by simp [show i < ds.length by omega]⟩
  obtain ⟨w, h1, h2, h3⟩ := e3 i d hd
  refine ⟨⟨vs, w, SqL.of e1', h1⟩, fun x H2 y => ?_⟩
  obtain ⟨T, x2, ex, hT, eH, y2⟩ := y
  have hx : x2 = w := by
    have := y2 vs (SqL.of e1')
    rw [h1] at this
    exact (Option.some.inj this).symm
  subst hx ex eH
  have exx := Ex.new (o := .tup [.int ((i : Nat) : Int), x2]) hT
  have hf2 := (hf.ex exx).pushF (v := .int ((i : Nat) : Int)) (d := .int ((i : Nat) : Int)) o_int
  rcases hel i d el hd hi with ⟨fl, rfl⟩ | rfl
  · exact ⟨T, _, x2, rfl, .inl (.inl upd_same), _, hf2.pushF ((h2.mono exx).flatO fl)⟩
  · refine ⟨T, _, x2, rfl, .inl (.inl upd_same), _, hf2.pushV (o := .t ts.length) (fun _ => sub_own) ?_⟩
    refine (h3.heap exx.tk (hf.base.trans exx) hf.base ?_ ?_).congrV (fun _ => sub_own) fun o' z _ => fupd_ne fun zz => ?_
    · intro a' ha'
      obtain ⟨u, q, _⟩ := hf.dom _ a' ha'
      rw [exx a' u q, q]
    · intro o' d' _ a' ha'
      obtain ⟨u, q, _⟩ := hf.dom _ a' ha'
      rw [exx a' u q, q]
    · subst zz
      exact absurd (hf.mle _ z) (Nat.lt_irrefl _)
theorem iv_enumF {l : Expr} {p tpos : Pos} {elts : List Expr} {kk : Nat} (hg : Gl X "enumerate") (hm : X.mg "enumerate" = none)
    (h : EV X l ss ts fun s r => ∃ ds, r.is (.lst ds) ∧ (∀ d ∈ ds, d.flat = true) ∧ Ψ s [r] (ds.zipIdx.map fun p => .two (.own (.int ((p.2 : Nat) : Int))) (.own p.1)))
    (hs : starEach [l] X.env = [(false, eval l X.env)] := by rfl) : IV X (.Tuple elts kk tpos) (.Call (.Name "enumerate" p) [l] [] pos) ss ts Ψ :=
  iv_enum' hg hm (h.imp fun s r ⟨ds, e1, e2, q⟩ => ⟨ds, _, e1, by simp, fun i d el hd he => .inl ⟨e2 d (List.mem_of_getElem? hd), by
    rw [List.getElem?_map, List.getElem?_zipIdx, hd] at he
    have z := (Option.some.inj he).symm
    simpa using z⟩, q⟩) hs
theorem iv_enum {l : Expr} {p tpos : Pos} {elts : List Expr} {kk : Nat} (hg : Gl X "enumerate") (hm : X.mg "enumerate" = none)
    (h : EV X l ss ts fun s r => ∃ ds, r.is (.lst ds) ∧ Ψ s [r] (ds.zipIdx.map fun p => .two (.own (.int ((p.2 : Nat) : Int))) (sub ts.length r p.1)))
    (hs : starEach [l] X.env = [(false, eval l X.env)] := by rfl) : IV X (.Tuple elts kk tpos) (.Call (.Name "enumerate" p) [l] [] pos) ss ts Ψ :=
  iv_enum' hg hm (h.imp fun s r ⟨ds, e1, q⟩ => ⟨ds, _, e1, by simp, fun i d el hd he => .inr (by
    rw [List.getElem?_map, List.getElem?_zipIdx, hd] at he
    have z := (Option.some.inj he).symm
    simpa using z), q⟩) hs
/-- over a text's signs -/
theorem iv_str {l : Expr} (h : EV X l ss ts fun s r => ∃ x, r.is (.str x) ∧ Ψ s [] (x.cps.toList.map fun c => .one (.own (.str ⟨#[c]⟩)))) : IV X tg l ss ts Ψ := fun m B σ tv H R hm' hh k => by
  refine toI (pi_str pe_w) ?_
  refine h m B σ tv H _ hm' hh fun s r v H1 ⟨x, e1, q⟩ h1 => ?_
  have z := h1.top e1
  rw [rep_str] at z
  refine ⟨x, z, k s [] [] _ _ H1 q rfl (h1.pop hm') ?_⟩
  intro m' B' H' σ' ss' ev es tv' ts' h' hlen hl hmm
  refine ⟨fun n el he => ?_, fun n hn => ?_⟩
  · rw [List.getElem?_map] at he
    cases e2 : (x.cps.toList)[n]? with
    | none => rw [e2] at he; cases he
    | some c =>
      rw [e2] at he
      have e3 : El.one (.own (.str ⟨#[c]⟩)) = el := Option.some.inj he
      subst e3
      have hi := getElem?_lt e2
      refine ⟨by show n < x.cps.size; simpa using hi, fun v' H2 y => ?_⟩
      obtain ⟨y1, c', y2, y3⟩ := y
      have e5 : c' = c := by
        rw [Array.getElem?_toList] at e2
        rw [e2] at y2
        exact (Option.some.inj y2).symm
      subst y1 y3 e5
      exact h'.pushF o_str
  · show x.cps.size ≤ n
    simpa using hn

/-! ### comprehensions -/
/-- the slots vs forgotten -/
def wipeS (vs : List Nat) (ss : List Slot) : List Slot := vs.foldl (fun s i => s.set i .no) ss
theorem wipeS_length : ∀ (vs : List Nat) (ss : List Slot), (wipeS vs ss).length = ss.length
  | [], _ => rfl
  | v :: vs, ss => by
    show (wipeS vs (ss.set v .no)).length = _
    rw [wipeS_length, List.length_set]
theorem wipeS_get : ∀ (vs : List Nat) (ss : List Slot) (i : Nat), (wipeS vs ss)[i]? = if i ∈ vs then (ss[i]?).map (fun _ => .no) else ss[i]?
  | [], ss, i => by rw [if_neg (by simp)]; rfl
  | v :: vs, ss, i => by
    show (wipeS vs (ss.set v .no))[i]? = _
    rw [wipeS_get vs _ i]
    by_cases h1 : i ∈ vs
    · rw [if_pos h1, if_pos (List.mem_cons_of_mem _ h1)]
      by_cases h2 : v = i
      · subst h2
        by_cases h3 : v < ss.length
        · rw [List.getElem?_set_self h3, List.getElem?_eq_getElem h3]; rfl
        · rw [List.getElem?_eq_none (by simpa using h3), List.getElem?_eq_none (by simpa using h3)]
      · rw [List.getElem?_set_ne h2]
    · rw [if_neg h1]
      by_cases h2 : v = i
      · subst h2
        rw [if_pos List.mem_cons_self]
        by_cases h3 : v < ss.length
        · rw [List.getElem?_set_self h3, List.getElem?_eq_getElem h3]; rfl
        · rw [List.getElem?_eq_none (by simpa using h3), List.getElem?_eq_none (by simpa using h3)]; rfl
      · rw [List.getElem?_set_ne h2, if_neg (by simp only [List.mem_cons, not_or]; exact ⟨fun z => h2 z.symm, h1⟩)]
theorem wipe_get : ∀ (vs : List Nat) (σ : L2.St) (i : Nat), (wipe σ vs)[i]? = if i ∈ vs then (σ[i]?).map (fun _ => none) else σ[i]?
  | [], σ, i => by rw [if_neg (by simp)]; rfl
  | v :: vs, σ, i => by
    unfold wipe
    by_cases h2 : v = i
    · subst h2
      rw [if_pos List.mem_cons_self]
      by_cases h3 : v < σ.length
      · rw [List.getElem?_set_self (by rw [wipe_length]; exact h3), List.getElem?_eq_getElem h3]; rfl
      · rw [List.getElem?_eq_none (by rw [List.length_set, wipe_length]; simpa using h3), List.getElem?_eq_none (by simpa using h3)]; rfl
    · rw [List.getElem?_set_ne h2, wipe_get vs σ i]
      by_cases h1 : i ∈ vs
      · rw [if_pos h1, if_pos (List.mem_cons_of_mem _ h1)]
      · rw [if_neg h1, if_neg (by simp only [List.mem_cons, not_or]; exact ⟨fun z => h2 z.symm, h1⟩)]
section
variable {K : PySem.W.Frag} {m : Nat → Prop} {B H H' : Hp} {σ σ' : List (Option V)} {tv : List V} {v : V} {d : D} {vs : List Nat}
/-- the slots vs tell nothing: their values may be anything -/
theorem Held.other (h : Held K m B H σ ss tv ts) (l : σ'.length = σ.length) (e : ∀ i, i ∉ vs → σ'[i]? = σ[i]?) : Held K m B H σ' (wipeS vs ss) tv ts := by
  obtain ⟨fp, h⟩ := h
  refine ⟨fp, h.base, by rw [l, wipeS_length]; exact h.slen, h.tlen, h.mle, fun i s q => ?_, h.tmp, h.disj, h.nod, h.out, h.dom⟩
  rw [wipeS_get] at q
  by_cases hi : i ∈ vs
  · rw [if_pos hi] at q
    cases e1 : ss[i]? with
    | none => rw [e1] at q; cases q
    | some s0 =>
      rw [e1] at q
      have z : Slot.no = s := Option.some.inj q
      subst z
      trivial
  · rw [if_neg hi] at q
    rw [e i hi]
    exact h.var i s q
/-- the value at the top is appended to the list under it -/
theorem HeldF.snoc {fp : Own → List Addr} {a : Addr} {acc : List D} (h : HeldF K m B H fp σ ss (v :: .ref a :: tv) (.own d :: .own (.lst acc) :: ts)) (hm : Low m ts.length) :
    ∃ vs, H a = some (.lst vs) ∧ vs.length = acc.length ∧ Held K m B (upd H a (.lst (vs ++ [v]))) σ ss (.ref a :: tv) (.own (.lst (acc ++ [d])) :: ts) := by
  obtain ⟨fp1, F1, h1, s1, r1, n1, o1, b1, _⟩ := h.take (hm.up)
  obtain ⟨fp2, F2, h2, s2, r2, n2, o2, b2, t2⟩ := h1.take hm
  unfold RepO at r2
  obtain ⟨a', vs, G, e0, e1, e2, e3⟩ := r2
  cases e0
  subst e2
  have n3 := List.nodup_cons.mp n2
  have tk : TK H (upd H a (.lst (vs ++ [v]))) := TK.upd e1 fun z => z
  have na : ∀ F : List Addr, a ∉ F → ∀ b ∈ F, upd H a (.lst (vs ++ [v])) b = H b := fun F z b hb => upd_ne fun q => z (q ▸ hb)
  have aF1 : a ∉ F1 := fun z => o1 a z _ (t2 a List.mem_cons_self)
  refine ⟨vs, e1, e3.reps.length, _, (h2.heap tk (fun b u q => ?_) fun o b hb => ?_).push (F := a :: (G ++ F1)) ?_ ?_ (fun b hb o _ => ?_) fun b hb => ?_⟩
  · have nb : b ≠ a := fun z => by
      subst z
      rw [b2 b List.mem_cons_self] at q
      cases q
    rw [upd_ne nb]
    exact h2.base b u q
  · exact upd_ne fun z => o2 a List.mem_cons_self o (by rw [← z]; exact hb)
  · unfold RepO
    exact ⟨a, vs ++ [v], G ++ F1, rfl, upd_same, rfl, (e3.frame tk (na G n3.1)).append (RepOs.one (r1.frame tk (na F1 aF1)))⟩
  · refine List.nodup_cons.mpr ⟨fun z => ?_, List.nodup_append.mpr ⟨n3.2, n1, fun b hb c hc z => ?_⟩⟩
    · rcases List.mem_append.mp z with z | z
      · exact n3.1 z
      · exact aF1 z
    · subst z
      exact o1 b hc _ (t2 b (List.mem_cons_of_mem _ hb))
  · rcases List.mem_cons.mp hb with rfl | hb
    · exact o2 b List.mem_cons_self o
    · rcases List.mem_append.mp hb with hb | hb
      · exact o2 b (List.mem_cons_of_mem _ hb) o
      · exact fun z => o1 b hb o (s2 o b z)
  · rcases List.mem_cons.mp hb with rfl | hb
    · exact b2 b List.mem_cons_self
    · rcases List.mem_append.mp hb with hb | hb
      · exact b2 b (List.mem_cons_of_mem _ hb)
      · exact b1 b hb
end
/-- a comprehension's tests -/
def TsV (X : Cx) (ifs : List Expr) (ss ts : List Slot) (Θ : List Slot → Bool → Prop) : Prop :=
  ∀ m B σ tv H Q, Low m ts.length → Held X.K m B H σ ss tv ts → (∀ ss' b H', Θ ss' b → Held X.K m B H' σ ss' tv ts → Q b H') → wTs X ifs σ H Q
theorem tsv_nil {Θ : List Slot → Bool → Prop} (q : Θ ss true) : TsV X [] ss ts Θ := fun m B σ tv H Q hm hh k => ⟨_, pts_nil, k ss true H q hh⟩
theorem tsv_one {Θ : List Slot → Bool → Prop} (h : TV X c ss ts Θ) : TsV X [c] ss ts Θ := fun m B σ tv H Q hm hh k => ⟨_, pts_one pt_w, h m B σ tv H Q hm hh k⟩
theorem pts_w {ifs : List Expr} : PTs X ifs (wTs X ifs) := ⟨fun pins s σ H Q I ⟨t, p, q⟩ => p.run pins s σ H Q I q⟩
/-- what the turn of a comprehension asks -/
def LcTurn (X : Cx) (elt tg : Expr) (ifs : List Expr) (scope : Scope) (vs : List Nat) (el : El) (s : List Slot) (ts : List Slot) (acc : List D) (N : List Slot → List D → Prop) : Prop :=
  ∀ s0 H0 C cl fp, GV (X.blk s0 H0 scope (compEnvC scope cl C X.env) fp) tg vs el s (.own (.lst acc) :: ts) fun s1 =>
    ∀ s0 H0 C cl fp, TsV (X.blk s0 H0 scope (compEnvC scope cl C X.env) fp) ifs s1 (.own (.lst acc) :: ts) fun s2 t =>
      (t = true → ∀ s0 H0 C cl fp, EV (X.blk s0 H0 scope (compEnvC scope cl C X.env) fp) elt s2 (.own (.lst acc) :: ts) fun s3 r => ∃ d, r = .own d ∧ acc.length < 1000000 ∧ N (wipeS vs s3) (acc ++ [d])) ∧
      (t = false → N (wipeS vs s2) acc)
theorem lc_all {elt iter : Expr} {ifs : List Expr} {scope : Scope} {vs : List Nat}
    (h : IV X tg iter ss ts fun s1 rs els => ∃ I : Nat → List Slot → List D → Prop, I 0 (wipeS vs s1) [] ∧
      (∀ i el s acc, els[i]? = some el → I i s acc → LcTurn X elt tg ifs scope vs el s (rs ++ ts) acc (I (i + 1))) ∧ ∀ s acc, I els.length s acc → Φ (s.map (killT ts.length)) (.own (.lst acc)))
    {m : Nat → Prop} {B : Hp} {σ : L2.St} {tv : List V} {H : Hp} {Q : VK} (hm : Low m ts.length) (hh : Held X.K m B H σ ss tv ts) (k : ∀ ss' r v H', Φ ss' r → Held X.K m B H' σ ss' (v :: tv) (r :: ts) → Q v H') :
    tLc (wI X tg iter) (fun v σ H Q => ∀ s0 H0 C cl fp, wG (X.blk s0 H0 scope (compEnvC scope cl C X.env) fp) tg v σ H Q) (fun σ H Q => ∀ s0 H0 C cl fp, wTs (X.blk s0 H0 scope (compEnvC scope cl C X.env) fp) ifs σ H Q)
      (fun σ H Q => ∀ s0 H0 C cl fp, wE (X.blk s0 H0 scope (compEnvC scope cl C X.env) fp) elt σ H Q) vs σ H Q := by
  refine h m B σ tv H _ hm hh fun s1 rs rv els J H1 ⟨I, i0, step, fin⟩ rl h1 io D hD => ?_
  have vk := h1.vok
  have wl : (wipe σ vs).length = σ.length := wipe_length σ vs
  have we : ∀ i, i ∉ vs → (wipe σ vs)[i]? = σ[i]? := fun i hi => by rw [wipe_get, if_neg hi]
  have low' : Low (fun k => m k ∨ (ts.length ≤ k ∧ k < ts.length + rs.length)) (rs ++ ts).length := fun k q => by
    rw [List.length_append]
    rcases q with q | q
    · have := hm k q
      omega
    · omega
  have hw : Held X.K (fun k => m k ∨ (ts.length ≤ k ∧ k < ts.length + rs.length)) B H1 (wipe σ vs) (wipeS vs s1) (rv ++ tv) (rs ++ ts) := (h1.more (fun k q => .inl q) low').other wl we
  have ex := Ex.new (o := .lst []) hD
  have hD0 : Held X.K (fun k => m k ∨ (ts.length ≤ k ∧ k < ts.length + rs.length)) B (upd H1 D (.lst [])) (wipe σ vs) (wipeS vs s1) (.ref D :: (rv ++ tv)) (.own (.lst []) :: (rs ++ ts)) :=
    hw.fresh ex (F := [D]) (by unfold RepO; exact ⟨D, [], [], rfl, upd_same, rfl, by unfold RepOs; exact ⟨rfl, rfl⟩⟩) (by simp) fun a ha => by
      rw [List.mem_singleton.mp ha]
      exact hD
  refine ⟨fun i n H' => n = els.length - i ∧ i ≤ els.length ∧ ∃ s acc, I i s acc ∧ (∀ j, j ∈ vs → s[j]? = some .no ∨ s[j]? = none) ∧
    Held X.K (fun k => m k ∨ (ts.length ≤ k ∧ k < ts.length + rs.length)) B H' (wipe σ vs) s (.ref D :: (rv ++ tv)) (.own (.lst acc) :: (rs ++ ts)), ⟨_, rfl, Nat.zero_le _, _, _, i0, fun j hj => ?_, hD0⟩, ?_⟩
  · rw [wipeS_get, if_pos hj]
    cases s1[j]? with
    | none => exact .inr rfl
    | some _ => exact .inl rfl
  rintro i n H' ⟨rfl, hi, s, acc, hI, hno, h'⟩
  obtain ⟨go, stop⟩ := io _ _ _ _ _ [.ref D] [.own (.lst acc)] _ _ h' rfl rfl fun k q1 q2 => .inr ⟨q1, q2⟩
  by_cases hlt : i < els.length
  · obtain ⟨el, he⟩ : ∃ el, els[i]? = some el := ⟨els[i], by simp [hlt]⟩
    obtain ⟨g1, g2⟩ := go i el he
    refine .inr ⟨g1, fun H2 => ∃ s acc, I (i + 1) s acc ∧ (∀ j, j ∈ vs → s[j]? = some .no ∨ s[j]? = none) ∧
      Held X.K (fun k => m k ∨ (ts.length ≤ k ∧ k < ts.length + rs.length)) B H2 (wipe σ vs) s (.ref D :: (rv ++ tv)) (.own (.lst acc) :: (rs ++ ts)), fun H2 q => ⟨els.length - (i + 1), by omega, rfl, hlt, q⟩, fun x H2 y => ?_⟩
    intro s0 H0 C cl fp
    refine step i el s acc he hI s0 H0 C cl fp _ B (wipe σ vs) (.ref D :: (rv ++ tv)) H2 x _ low'.up (g2 x H2 y) fun s3 σ3 H3 q3 h3 z3 => ?_
    have low2 : Low (fun k => m k ∨ (ts.length ≤ k ∧ k < ts.length + rs.length)) (.own (.lst acc) :: (rs ++ ts)).length := low'.up
    have wo : ∀ i, i ∉ vs → (wipe σ vs)[i]? = σ3[i]? := fun i hi => (z3.1 i hi).symm
    have wb : wipe σ3 vs = wipe σ vs := List.ext_getElem? fun i => by
      rw [wipe_get]
      by_cases hi : i ∈ vs
      · rw [if_pos hi]
        by_cases l : i < σ3.length
        · rw [List.getElem?_eq_getElem l, wipe_get, if_pos hi, List.getElem?_eq_getElem (show i < σ.length by rw [← wl, ← z3.2]; exact l)]
          rfl
        · rw [List.getElem?_eq_none (Nat.le_of_not_lt l), List.getElem?_eq_none (by rw [← z3.2]; exact Nat.le_of_not_lt l)]
          rfl
      · rw [if_neg hi]
        exact z3.1 i hi
    have nos : ∀ s5 : List Slot, ∀ j, j ∈ vs → (wipeS vs s5)[j]? = some .no ∨ (wipeS vs s5)[j]? = none := fun s5 j hj => by
      rw [wipeS_get, if_pos hj]
      cases s5[j]? with
      | none => exact .inr rfl
      | some _ => exact .inl rfl
    refine ⟨wb, fun s0 H0 C cl fp => ?_⟩
    refine q3 s0 H0 C cl fp _ B σ3 _ H3 _ low2 h3 fun s4 t H4 ⟨q4, q5⟩ h4 => ?_
    cases t with
    | false =>
      refine iteF ⟨_, acc, q5 rfl, nos s4, ?_⟩
      exact h4.other (by rw [z3.2]) wo
    | true =>
      refine iteT fun s0 H0 C cl fp => ?_
      refine q4 rfl s0 H0 C cl fp _ B σ3 _ H4 _ low2 h4 fun s5 r y5 H5 ⟨d, er, ll, q6⟩ h5 => ?_
      subst er
      obtain ⟨fp5, h5⟩ := h5
      obtain ⟨avs, e1, e2, h6⟩ := h5.snoc low'
      refine ⟨avs, e1, Nat.lt_trans (by omega : avs.length < 1000000) (by decide), _, _, q6, nos s5, ?_⟩
      exact h6.other (by rw [z3.2]) wo
  · have e : i = els.length := by omega
    subst e
    refine .inl ⟨stop _ (Nat.le_refl _), ?_⟩
    have h2 : Held X.K m B H' (wipe σ vs) (s.map (killT ts.length)) (.ref D :: (rv ++ tv)) (.own (.lst acc) :: (rs ++ ts)) := h'.less (fun k q l => by
      rcases q with q | q
      · exact q
      · omega) (hm.app (.own (.lst acc) :: rs)) fun s hs => by
        rcases List.mem_cons.mp hs with rfl | hs
        · exact fun _ _ z => nomatch z
        · exact vk s hs
    have h3 := Held.under h2 rl hm
    refine k _ _ _ H' (fin s acc hI) ?_
    obtain ⟨fp, f⟩ := h3
    refine ⟨fp, f.base, by rw [← wl]; exact f.slen, f.tlen, f.mle, fun j s' e => ?_, f.tmp, f.disj, f.nod, f.out, f.dom⟩
    by_cases hj : j ∈ vs
    · rw [List.getElem?_map] at e
      rcases hno j hj with z | z
      · rw [z] at e
        have e2 : Slot.no = s' := Option.some.inj e
        subst e2
        trivial
      · rw [z] at e
        cases e
    · have z := f.var j s' e
      rw [we j hj] at z
      exact z
theorem ev_lc {elt iter : Expr} {ifs : List Expr} {scope : Scope} (own : List (Str × Nat)) (hc : X.calm = true) (hN : X.N.Nodup) (ok : BlkOk X.N X.env.scope scope own)
    (h : IV X tg iter ss ts fun s1 rs els => ∃ I : Nat → List Slot → List D → Prop, I 0 (wipeS (own.map (·.2)) s1) [] ∧
      (∀ i el s acc, els[i]? = some el → I i s acc → LcTurn X elt tg ifs scope (own.map (·.2)) el s (rs ++ ts) acc (I (i + 1))) ∧ ∀ s acc, I els.length s acc → Φ (s.map (killT ts.length)) (.own (.lst acc)))
    (hs : ∀ x, foldedSetIterable iter X.env x = pure x := by intro _; rfl) : EV X (.ListComp elt [⟨tg, iter, ifs, 0⟩] scope pos) ss ts Φ := fun m B σ tv H Q hm hh k => by
  refine toE (pe_lc hc hN pi_w ok (fun s H C cl fp => ⟨fun pins s' σ H v u Q I r h => h s _ C cl fp pins s' u I r⟩) (fun s H C cl fp => ⟨fun pins s' σ H Q I h => ?_⟩) (fun s H C cl fp => ⟨fun pins s' σ H Q I h => h s _ C cl fp pins s' I⟩) hs) (lc_all h hm hh k)
  exact pts_w.run pins s' σ H Q I (h s _ C cl fp)
/-- name = [..] on one line -/
theorem s1_setLc {i : Nat} {y : Str} {py : Pos} {elt iter : Expr} {ifs : List Expr} {scope : Scope} {spos : Pos} (own : List (Str × Nat)) (hc : X.calm = true) (hN : X.N.Nodup) (hy : X.N[i]? = some y) (hyl : X.env.scope.names.lookup y = some .local)
    (hsw : swapsWith (.ListComp elt [⟨tg, iter, ifs, 0⟩] scope pos) (some (.Name y py)) spos.line X.env = pure true) (ok : BlkOk X.N X.env.scope scope own) (hfx : i ∉ fx) (hil : (ss[i]?).isSome = true)
    (h : IV X tg iter ss ts fun s1 rs els => ∃ I : Nat → List Slot → List D → Prop, I 0 (wipeS (own.map (·.2)) s1) [] ∧
      (∀ i el s acc, els[i]? = some el → I i s acc → LcTurn X elt tg ifs scope (own.map (·.2)) el s (rs ++ ts) acc (I (i + 1))) ∧
      ∀ s acc, I els.length s acc → s.length = ss.length ∧ noView (.v i) ts = true ∧ E.nx (((s.map (killT ts.length)).map (kill (.v i))).set i (.own (.lst acc))))
    (hs : ∀ x, foldedSetIterable iter X.env x = pure x := by intro _; rfl) : S1 X fx (.Assign [.Name y py] (.ListComp elt [⟨tg, iter, ifs, 0⟩] scope pos) spos) ss ts E := fun B σ tv H D hh k => by
  refine toS (ps_setLc (wi := wI X tg iter) (g := fun v σ H Q => ∀ s0 H0 C cl fp, wG (X.blk s0 H0 scope (compEnvC scope cl C X.env) fp) tg v σ H Q) (tt := fun σ H Q => ∀ s0 H0 C cl fp, wTs (X.blk s0 H0 scope (compEnvC scope cl C X.env) fp) ifs σ H Q)
    (te := fun σ H Q => ∀ s0 H0 C cl fp, wE (X.blk s0 H0 scope (compEnvC scope cl C X.env) fp) elt σ H Q) hc hN hy hyl hsw pi_w ok (fun s H C cl fp => ⟨fun pins s' σ H v u Q I r h => h s _ C cl fp pins s' u I r⟩) (fun s H C cl fp => ⟨fun pins s' σ H Q I h => ?_⟩) (fun s H C cl fp => ⟨fun pins s' σ H Q I h => h s _ C cl fp pins s' I⟩) hs) ?_
  · exact pts_w.run pins s' σ H Q I (h s _ C cl fp)
  · refine lc_all (Φ := fun s r => s.length = ss.length ∧ noView (.v i) ts = true ∧ (∃ acc, r = .own (.lst acc)) ∧ E.nx ((s.map (kill (.v i))).set i r)) (h := ?_) Low.self hh fun s r v H' ⟨l, n1, ⟨acc, e⟩, q⟩ h' => ?_
    · intro m B σ tv H R hm hh kk
      refine h m B σ tv H R hm hh fun s1 rs rv els J H' ⟨I, i0, st, fi⟩ => kk s1 rs rv els J H' ⟨I, i0, st, fun s acc q => ?_⟩
      obtain ⟨l, n, q⟩ := fi s acc q
      exact ⟨by simpa using l, n, ⟨acc, rfl⟩, q⟩
    · subst e
      refine k.nx _ _ H' q (h'.assign Low.self (by rw [l]; exact isSome_lt hil) n1 (fun _ z => nomatch z)) fun j hj => ?_
      exact List.getElem?_set_ne (fun z => by subst z; exact hfx hj)

/-! ### calls of the program's own defs -/
def isAll : List Slot → List D → Prop
  | [], [] => True
  | r :: rs, d :: ds => r.is d ∧ isAll rs ds
  | _, _ => False
theorem isAll.len : ∀ {rs : List Slot} {ds : List D}, isAll rs ds → rs.length = ds.length
  | [], [], _ => rfl
  | _ :: _, _ :: _, h => by rw [List.length_cons, List.length_cons, isAll.len h.2]
  | [], _ :: _, h => h.elim
  | _ :: _, [], h => h.elim
theorem isAll.app : ∀ {rs rs' : List Slot} {ds ds' : List D}, isAll rs ds → isAll rs' ds' → isAll (rs ++ rs') (ds ++ ds')
  | [], _, [], _, _, k => k
  | _ :: _, _, _ :: _, _, h, k => ⟨h.1, isAll.app h.2 k⟩
  | [], _, _ :: _, _, h, _ => h.elim
  | _ :: _, _, [], _, h, _ => h.elim
theorem isAll.rev : ∀ {rs : List Slot} {ds : List D}, isAll rs ds → isAll rs.reverse ds.reverse
  | [], [], _ => trivial
  | r :: rs, d :: ds, h => by
    rw [List.reverse_cons, List.reverse_cons]
    exact (isAll.rev h.2).app ⟨h.1, trivial⟩
  | [], _ :: _, h => h.elim
  | _ :: _, [], h => h.elim
section
variable {K : PySem.W.Frag} {m : Nat → Prop} {B H : Hp} {σ : List (Option V)} {tv vs : List V} {rs : List Slot} {ds : List D}
theorem Held.reps : ∀ {rs : List Slot} {vs : List V} {ds : List D}, vs.length = rs.length → Held K m B H σ ss (vs ++ tv) (rs ++ ts) → isAll rs ds → Low m ts.length → RepRs K H ds vs
  | [], [], [], _, _, _, _ => by unfold RepRs; rfl
  | r :: rs, v :: vs, d :: ds, e, h, q, hm => by
    unfold RepRs
    exact ⟨v, vs, rfl, Held.top h q.1, Held.reps (rs := rs) (vs := vs) (ds := ds) (by simpa using e) (Held.pop h (hm.app _)) q.2 hm⟩
  | [], _ :: _, _, e, _, _, _ => nomatch e
  | _ :: _, [], _, e, _, _, _ => nomatch e
  | _ :: _, _ :: _, [], _, _, q, _ => q.elim
  | [], [], _ :: _, _, _, q, _ => q.elim
theorem RepRs.rev {ds : List D} {vs : List V} (h : RepRs K H ds vs) : RepRs K H ds.reverse vs.reverse := by
  induction ds generalizing vs with
  | nil => unfold RepRs at h; subst h; unfold RepRs; rfl
  | cons d ds ih =>
    unfold RepRs at h
    obtain ⟨w, ws, rfl, h1, h2⟩ := h
    rw [List.reverse_cons, List.reverse_cons]
    exact (ih h2).append (by unfold RepRs; exact ⟨w, [], rfl, h1, by unfold RepRs; rfl⟩)
/-- the data of arguments on the way -/
theorem Held.argsOf (h : Held K m B H σ ss (vs.reverse ++ tv) (rs.reverse ++ ts)) (l : vs.length = rs.length) (q : isAll rs ds) (hm : Low m ts.length) : RepRs K H ds vs := by
  have z := Held.reps (by simpa using l) h q.rev hm
  have z2 := RepRs.rev z
  rw [List.reverse_reverse, List.reverse_reverse] at z2
  exact z2
theorem Held.popA (h : Held K m B H σ ss (vs.reverse ++ tv) (rs.reverse ++ ts)) (l : vs.length = rs.length) (hm : Low m ts.length) : Held K m B H σ ss tv ts := Held.popN (by simpa using l) h hm
end
/-- what is known of a value that a call has brought: new data in H' -/
def New (K : PySem.W.Frag) (H H' : Hp) (v : V) (d : D) : Prop := Ex H H' ∧ ∃ F, RepO K H' d v F ∧ F.Nodup ∧ ∀ a ∈ F, H a = none
theorem Held.new {K : PySem.W.Frag} {m : Nat → Prop} {B H H' : Hp} {σ : List (Option V)} {tv : List V} {v : V} {d : D} (h : Held K m B H σ ss tv ts) (n : New K H H' v d) : Held K m B H' σ ss (v :: tv) (.own d :: ts) := by
  obtain ⟨ex, F, r, nd, nw⟩ := n
  exact h.fresh ex r nd nw
/-- a promise with no changed argument, from the data of the arguments -/
theorem spP_use {K : PySem.W.Frag} {F : List D → (D → Prop) → Prop} {ds : List D} {vs : List V} {H : Hp} {Q : VK} {Ex' : XK} (r : RepRs K H ds vs) {k : D → Prop} (hF : F ds k) (q : ∀ d v H', k d → New K H H' v d → Q v H') : spP K F vs H Q Ex' := by
  refine ⟨H, ds.map Slot.par, held_par r, ds, k, rfl, hF, fun d hk v H' ⟨fp, h⟩ => ?_⟩
  obtain ⟨w, e1, e2⟩ := h.top
  cases e1
  exact q d v H' hk ⟨h.base, _, e2, h.nod _, fun a ha => h.out _ a ha⟩
section
variable {CX : CXT} {k : Nat} {f : Addr} {fd : FuncData} {ps : List Str} {x : Str} {p : Pos} {EX : XK} {F : List D → (D → Prop) → Prop}
theorem ev_call {dvs : List V} {dfl : List Value} {dds : List D} (G : FnOk X.prog X.w X.K X.mg X.base CX k f fd ps (spP X.K F)) (hr : Room k X.A) (hg : Gl X x) (hm : X.mg x = some (.ref f)) (hk : PySem.W.keepIn X.K (.ref f) = true) (hb : Binds X.K fd ps dfl) (hd : Vals dvs dfl) (hdd : ∀ H, RepRs X.K H dds dvs) (hx : Passes CX X EX)
    (h : AV X (e :: es) ss ts fun s rs => ∃ ds, isAll rs ds ∧ F (ds ++ dds) fun d => Φ s (.own d))
    (hdb : (x == ("__debug__" : Str)) = false := by decide) (he : starEach (e :: es) X.env = (false, eval e X.env) :: starEach es X.env := by rfl) (hpl : (backTo pos (starEach es X.env)).any (·.1) = false := by rfl) : EV X (.Call (.Name x p) (e :: es) [] pos) ss ts Φ := fun m B σ tv H Q hm' hh kk => by
  refine toE (pe_call G hr hg hm hk hb hd hx pa_w hdb he hpl) ?_
  refine h m B σ tv H _ hm' hh fun s rs vs H1 ⟨ds, ia, hF⟩ l1 l2 hh1 => ?_
  have hpop := hh1.popA l1 hm'
  refine spP_use ((hh1.argsOf l1 ia hm').append (hdd H1)) hF fun d v H2 q n => ?_
  exact kk s _ v H2 q (hpop.new n)
end
end
end DL
/-! The data layer, part 6: operators, built-in functions and methods. -/
namespace DL
open PySem PySem.Spec PyProof.Rows L2

section
variable {X : Cx} {fx : List Nat} {ss ts : List Slot} {Φ : List Slot → Slot → Prop} {e a b c tg it o : Expr} {es : List Expr} {pos p2 apos : Pos} {E : DE} {Θ : List Slot → Bool → Prop}

/-! ### ints and texts, two operands -/
theorem ev_ii {op : Operator} {C : Int → Int → Prop} {g : Int → Int → Int} (ho : OpR X (binaryOp op) (rI C fun i j => .int (g i j))) (h : EV X a ss ts fun s1 r1 => EV X b s1 (r1 :: ts) fun s2 r2 => ∃ i j, r1.is (.int i) ∧ r2.is (.int j) ∧ C i j ∧ Φ s2 (.own (.int (g i j)))) : EV X (.BinOp a op b pos) ss ts Φ :=
  ev_op2 ho (h.imp fun s1 r1 h1 => h1.imp fun s2 r2 ⟨i, j, e1, e2, hc, q⟩ => ⟨_, _, _, e1, e2, fun H x y rx ry => ⟨.int (g i j), fun H => o_int, fun Q q => by
    rw [rep_int] at rx ry
    exact ⟨i, j, rx, ry, hc, q⟩⟩, q⟩)
theorem ev_ii0 {op : Operator} {g : Int → Int → Int} (ho : OpR X (binaryOp op) (rI0 fun i j => .int (g i j))) (h : EV X a ss ts fun s1 r1 => EV X b s1 (r1 :: ts) fun s2 r2 => ∃ i j, r1.is (.int i) ∧ r2.is (.int j) ∧ Φ s2 (.own (.int (g i j)))) : EV X (.BinOp a op b pos) ss ts Φ :=
  ev_op2 ho (h.imp fun s1 r1 h1 => h1.imp fun s2 r2 ⟨i, j, e1, e2, q⟩ => ⟨_, _, _, e1, e2, fun H x y rx ry => ⟨.int (g i j), fun H => o_int, fun Q q => by
    rw [rep_int] at rx ry
    exact ⟨i, j, rx, ry, q⟩⟩, q⟩)
theorem ev_add (h : EV X a ss ts fun s1 r1 => EV X b s1 (r1 :: ts) fun s2 r2 => ∃ i j, r1.is (.int i) ∧ r2.is (.int j) ∧ Φ s2 (.own (.int (i + j)))) : EV X (.BinOp a .Add b pos) ss ts Φ := ev_ii0 op_add h
theorem ev_sub (h : EV X a ss ts fun s1 r1 => EV X b s1 (r1 :: ts) fun s2 r2 => ∃ i j, r1.is (.int i) ∧ r2.is (.int j) ∧ Φ s2 (.own (.int (i - j)))) : EV X (.BinOp a .Sub b pos) ss ts Φ := ev_ii0 op_sub h
theorem ev_mul (h : EV X a ss ts fun s1 r1 => EV X b s1 (r1 :: ts) fun s2 r2 => ∃ i j, r1.is (.int i) ∧ r2.is (.int j) ∧ CMulW i j ∧ Φ s2 (.own (.int (i * j)))) : EV X (.BinOp a .Mult b pos) ss ts Φ := ev_ii op_mulW h
/-- .. one factor within 2^64 -/
theorem ev_mulS (h : EV X a ss ts fun s1 r1 => EV X b s1 (r1 :: ts) fun s2 r2 => ∃ i j, r1.is (.int i) ∧ r2.is (.int j) ∧ CMul i j ∧ Φ s2 (.own (.int (i * j)))) : EV X (.BinOp a .Mult b pos) ss ts Φ := ev_ii op_mul h
/-- % by a positive number, // by a positive one below 2^9000 -/
theorem ev_mod (h : EV X a ss ts fun s1 r1 => EV X b s1 (r1 :: ts) fun s2 r2 => ∃ i j, r1.is (.int i) ∧ r2.is (.int j) ∧ 0 < j ∧ Φ s2 (.own (.int (i % j)))) : EV X (.BinOp a .Mod b pos) ss ts Φ := ev_ii op_mod h
theorem ev_fdiv (h : EV X a ss ts fun s1 r1 => EV X b s1 (r1 :: ts) fun s2 r2 => ∃ i j, r1.is (.int i) ∧ r2.is (.int j) ∧ CDivW i j ∧ Φ s2 (.own (.int (i / j)))) : EV X (.BinOp a .FloorDiv b pos) ss ts Φ := ev_ii op_fdivW h
theorem ev_modN (h : EV X a ss ts fun s1 r1 => EV X b s1 (r1 :: ts) fun s2 r2 => ∃ i j, r1.is (.int i) ∧ r2.is (.int j) ∧ j ≠ 0 ∧ Φ s2 (.own (.int (i.fmod j)))) : EV X (.BinOp a .Mod b pos) ss ts Φ := ev_ii op_modN h
theorem op_fdivWN : OpR X (binaryOp .FloorDiv) (rI (fun _ j => j ≠ 0 ∧ j.natAbs.log2 < 9000) fun i j => .int (i.fdiv j)) := opI fun _ _ _ _ _ _ _ hc q => floordiv_int hc.1 q (.inl (PyProof.noPylong_of_log2 hc.2))
theorem ev_fdivN (h : EV X a ss ts fun s1 r1 => EV X b s1 (r1 :: ts) fun s2 r2 => ∃ i j, r1.is (.int i) ∧ r2.is (.int j) ∧ (j ≠ 0 ∧ j.natAbs.log2 < 9000) ∧ Φ s2 (.own (.int (i.fdiv j)))) : EV X (.BinOp a .FloorDiv b pos) ss ts Φ := ev_ii op_fdivWN h
theorem ev_neg (h : EV X a ss ts fun s1 r1 => ∃ i, r1.is (.int i) ∧ Φ s1 (.own (.int (-i)))) : EV X (.UnaryOp .USub a pos) ss ts Φ :=
  ev_un un_neg (h.imp fun s r ⟨i, e, q⟩ => ⟨_, _, e, fun H x rx => ⟨.int (-i), fun H => o_int, fun Q q => by
    rw [rep_int] at rx
    exact ⟨i, rx, q⟩⟩, q⟩)
theorem ev_addS (h : EV X a ss ts fun s1 r1 => EV X b s1 (r1 :: ts) fun s2 r2 => ∃ x y, r1.is (.str x) ∧ r2.is (.str y) ∧ x.length + y.length ≤ 1000000 ∧ Φ s2 (.own (.str (x ++ y)))) : EV X (.BinOp a .Add b pos) ss ts Φ :=
  ev_op2 op_add_str (h.imp fun s1 r1 h1 => h1.imp fun s2 r2 ⟨i, j, e1, e2, hc, q⟩ => ⟨_, _, _, e1, e2, fun H x y rx ry => ⟨.str (i ++ j), fun H => o_str, fun Q q => by
    rw [rep_str] at rx ry
    exact ⟨i, j, rx, ry, Nat.le_trans hc (by decide), q⟩⟩, q⟩)

/-! ### comparisons -/
theorem tv_i {op : CmpOp} {g : Int → Int → Bool} (ho : OpR X (compareOp op) (rI0 fun i j => .bl (g i j))) (h1 : behindInMarks op b = false) (h : EV X a ss ts fun s1 r1 => EV X b s1 (r1 :: ts) fun s2 r2 => ∃ i j, r1.is (.int i) ∧ r2.is (.int j) ∧ Θ s2 (g i j)) : TV X (.Compare a [op] [b] pos) ss ts Θ :=
  tv_cmp2 ho h1 (h.imp fun s1 r1 h1 => h1.imp fun s2 r2 ⟨i, j, e1, e2, q⟩ => ⟨_, _, _, e1, e2, fun H x y rx ry Q q => by
    rw [rep_int] at rx ry
    exact ⟨i, j, rx, ry, q⟩, q⟩)
theorem tv_lt (h : EV X a ss ts fun s1 r1 => EV X b s1 (r1 :: ts) fun s2 r2 => ∃ i j, r1.is (.int i) ∧ r2.is (.int j) ∧ Θ s2 (decide (i < j))) : TV X (.Compare a [.Lt] [b] pos) ss ts Θ := tv_i op_lt (nobehind _ (by decide) (by decide)) h
theorem tv_le (h : EV X a ss ts fun s1 r1 => EV X b s1 (r1 :: ts) fun s2 r2 => ∃ i j, r1.is (.int i) ∧ r2.is (.int j) ∧ Θ s2 (decide (i ≤ j))) : TV X (.Compare a [.LtE] [b] pos) ss ts Θ := tv_i op_le (nobehind _ (by decide) (by decide)) h
theorem tv_gt (h : EV X a ss ts fun s1 r1 => EV X b s1 (r1 :: ts) fun s2 r2 => ∃ i j, r1.is (.int i) ∧ r2.is (.int j) ∧ Θ s2 (decide (j < i))) : TV X (.Compare a [.Gt] [b] pos) ss ts Θ := tv_i op_gt (nobehind _ (by decide) (by decide)) h
theorem tv_ge (h : EV X a ss ts fun s1 r1 => EV X b s1 (r1 :: ts) fun s2 r2 => ∃ i j, r1.is (.int i) ∧ r2.is (.int j) ∧ Θ s2 (decide (j ≤ i))) : TV X (.Compare a [.GtE] [b] pos) ss ts Θ := tv_i op_ge (nobehind _ (by decide) (by decide)) h
/-- scalars: ints, texts, bools, None -/
def D.sc : D → Option V
  | .int i => some (.int i)
  | .str x => some (.str x)
  | .bl b => some (.bl b)
  | .non => some .non
  | _ => none
theorem D.sc_rep {K : PySem.W.Frag} {H : Hp} {d : D} {v x : V} (h : RepR K H d v) (e : d.sc = some x) : v = x := by
  cases d with
  | int i => unfold RepR at h; cases e; exact h
  | str i => unfold RepR at h; cases e; exact h
  | bl i => unfold RepR at h; cases e; exact h
  | non => unfold RepR at h; cases e; exact h
  | _ => cases e
theorem tv_eq (h : EV X a ss ts fun s1 r1 => EV X b s1 (r1 :: ts) fun s2 r2 => ∃ d1 d2 x y, r1.is d1 ∧ r2.is d2 ∧ d1.sc = some x ∧ d2.sc = some y ∧ scal x y = true ∧ Θ s2 (decide (x = y))) : TV X (.Compare a [.Eq] [b] pos) ss ts Θ :=
  tv_cmp2 op_eq (nobehind _ (by decide) (by decide)) (h.imp fun s1 r1 h1 => h1.imp fun s2 r2 ⟨d1, d2, x, y, e1, e2, c1, c2, c3, q⟩ => ⟨_, _, _, e1, e2, fun H u w rx ry Q q => by
    rw [D.sc_rep rx c1, D.sc_rep ry c2]
    exact ⟨c3, q⟩, q⟩)
theorem tv_ne (h : EV X a ss ts fun s1 r1 => EV X b s1 (r1 :: ts) fun s2 r2 => ∃ d1 d2 x y, r1.is d1 ∧ r2.is d2 ∧ d1.sc = some x ∧ d2.sc = some y ∧ scal x y = true ∧ Θ s2 (!decide (x = y))) : TV X (.Compare a [.NotEq] [b] pos) ss ts Θ :=
  tv_cmp2 op_ne (nobehind _ (by decide) (by decide)) (h.imp fun s1 r1 h1 => h1.imp fun s2 r2 ⟨d1, d2, x, y, e1, e2, c1, c2, c3, q⟩ => ⟨_, _, _, e1, e2, fun H u w rx ry Q q => by
    rw [D.sc_rep rx c1, D.sc_rep ry c2]
    exact ⟨c3, q⟩, q⟩)

/-! ### == of nested data -/
mutual
/-- plain data without instances, as the library's -/
def D.py : D → Option PyData
  | .non => some .none
  | .bl b => some (.bool b)
  | .int i => some (.int i)
  | .str x => some (.str x)
  | .tup l => (D.pys l).map .tuple
  | .lst l => (D.pys l).map .list
  | _ => none
def D.pys : List D → Option (List PyData)
  | [] => some []
  | d :: ds => match d.py, D.pys ds with
    | some p, some ps => some (p :: ps)
    | _, _ => none
end
mutual
theorem D.dp {K : PySem.W.Frag} {H : Hp} : ∀ {d : D} {p : PyData} {v : V}, RepR K H d v → d.py = some p → Dp K H v p
  | .non, _, _, h, e => by unfold RepR at h; unfold D.py at e; cases e; subst h; exact Dp.non
  | .bl _, _, _, h, e => by unfold RepR at h; unfold D.py at e; cases e; subst h; exact Dp.bl _
  | .int _, _, _, h, e => by unfold RepR at h; unfold D.py at e; cases e; subst h; exact Dp.int _
  | .str _, _, _, h, e => by unfold RepR at h; unfold D.py at e; cases e; subst h; exact Dp.str _
  | .raw _, _, _, h, e => by unfold D.py at e; cases e
  | .fz _, _, _, h, e => by unfold D.py at e; cases e
  | .ins _ _ _, _, _, h, e => by unfold D.py at e; cases e
  | .tup l, _, _, h, e => by
    unfold RepR at h
    unfold D.py at e
    obtain ⟨a, vs, rfl, h1, h2⟩ := h
    obtain ⟨ps, e1, rfl⟩ := Option.map_eq_some_iff.mp e
    exact Dp.tup h1 (D.dps h2 e1)
  | .lst l, _, _, h, e => by
    unfold RepR at h
    unfold D.py at e
    obtain ⟨a, vs, rfl, h1, h2⟩ := h
    obtain ⟨ps, e1, rfl⟩ := Option.map_eq_some_iff.mp e
    exact Dp.lst (SqL.of h1) (D.dps h2 e1)
theorem D.dps {K : PySem.W.Frag} {H : Hp} : ∀ {ds : List D} {ps : List PyData} {vs : List V}, RepRs K H ds vs → D.pys ds = some ps → DpAll K H vs ps
  | [], _, _, h, e => by unfold RepRs at h; unfold D.pys at e; cases e; subst h; exact DpAll.nil
  | d :: ds, _, _, h, e => by
    unfold RepRs at h
    unfold D.pys at e
    obtain ⟨w, ws, rfl, h1, h2⟩ := h
    split at e
    · rename_i p ps e1 e2
      cases e
      exact DpAll.cons (D.dp h1 e1) (D.dps h2 e2)
    · cases e
end
theorem tv_eqD (hu : X.A.units + 64 < cLine) (h : EV X a ss ts fun s1 r1 => EV X b s1 (r1 :: ts) fun s2 r2 => ∃ d1 d2 x y, r1.is d1 ∧ r2.is d2 ∧ d1.py = some x ∧ d2.py = some y ∧ SeqAt.shaped x = true ∧ SeqAt.shaped y = true ∧ Θ s2 (PyData.eqv x y)) : TV X (.Compare a [.Eq] [b] pos) ss ts Θ :=
  tv_cmp2 (op_eqD hu) (nobehind _ (by decide) (by decide)) (h.imp fun s1 r1 h1 => h1.imp fun s2 r2 ⟨d1, d2, x, y, e1, e2, c1, c2, c3, c4, q⟩ => ⟨_, _, _, e1, e2, fun H u w rx ry Q q => ⟨x, y, D.dp rx c1, D.dp ry c2, c3, c4, q⟩, q⟩)
theorem tv_neD (hu : X.A.units + 64 < cLine) (h : EV X a ss ts fun s1 r1 => EV X b s1 (r1 :: ts) fun s2 r2 => ∃ d1 d2 x y, r1.is d1 ∧ r2.is d2 ∧ d1.py = some x ∧ d2.py = some y ∧ SeqAt.shaped x = true ∧ SeqAt.shaped y = true ∧ Θ s2 (!PyData.eqv x y)) : TV X (.Compare a [.NotEq] [b] pos) ss ts Θ :=
  tv_cmp2 (op_neD hu) (nobehind _ (by decide) (by decide)) (h.imp fun s1 r1 h1 => h1.imp fun s2 r2 ⟨d1, d2, x, y, e1, e2, c1, c2, c3, c4, q⟩ => ⟨_, _, _, e1, e2, fun H u w rx ry Q q => ⟨x, y, D.dp rx c1, D.dp ry c2, c3, c4, q⟩, q⟩)
/-- comparisons as values -/
theorem ev_eqD (hu : X.A.units + 64 < cLine) (h : EV X a ss ts fun s1 r1 => EV X b s1 (r1 :: ts) fun s2 r2 => ∃ d1 d2 x y, r1.is d1 ∧ r2.is d2 ∧ d1.py = some x ∧ d2.py = some y ∧ SeqAt.shaped x = true ∧ SeqAt.shaped y = true ∧ Φ s2 (.own (.bl (PyData.eqv x y)))) : EV X (.Compare a [.Eq] [b] pos) ss ts Φ :=
  ev_cmp2 (op_eqD hu) (nobehind _ (by decide) (by decide)) (h.imp fun s1 r1 h1 => h1.imp fun s2 r2 ⟨d1, d2, x, y, e1, e2, c1, c2, c3, c4, q⟩ => ⟨_, _, _, e1, e2, fun H u w rx ry => ⟨_, fun H => o_bl, fun Q q => ⟨x, y, D.dp rx c1, D.dp ry c2, c3, c4, q⟩⟩, q⟩)
theorem ev_eq (h : EV X a ss ts fun s1 r1 => EV X b s1 (r1 :: ts) fun s2 r2 => ∃ d1 d2 x y, r1.is d1 ∧ r2.is d2 ∧ d1.sc = some x ∧ d2.sc = some y ∧ scal x y = true ∧ Φ s2 (.own (.bl (decide (x = y))))) : EV X (.Compare a [.Eq] [b] pos) ss ts Φ :=
  ev_cmp2 op_eq (nobehind _ (by decide) (by decide)) (h.imp fun s1 r1 h1 => h1.imp fun s2 r2 ⟨d1, d2, x, y, e1, e2, c1, c2, c3, q⟩ => ⟨_, _, _, e1, e2, fun H u w rx ry => ⟨_, fun H => o_bl, fun Q q => by
    rw [D.sc_rep rx c1, D.sc_rep ry c2]
    exact ⟨c3, q⟩⟩, q⟩)
theorem ev_ci {op : CmpOp} {g : Int → Int → Bool} (ho : OpR X (compareOp op) (rI0 fun i j => .bl (g i j))) (h1 : behindInMarks op b = false) (h : EV X a ss ts fun s1 r1 => EV X b s1 (r1 :: ts) fun s2 r2 => ∃ i j, r1.is (.int i) ∧ r2.is (.int j) ∧ Φ s2 (.own (.bl (g i j)))) : EV X (.Compare a [op] [b] pos) ss ts Φ :=
  ev_cmp2 ho h1 (h.imp fun s1 r1 h1 => h1.imp fun s2 r2 ⟨i, j, e1, e2, q⟩ => ⟨_, _, _, e1, e2, fun H x y rx ry => ⟨_, fun H => o_bl, fun Q q => by
    rw [rep_int] at rx ry
    exact ⟨i, j, rx, ry, q⟩⟩, q⟩)
theorem ev_lt (h : EV X a ss ts fun s1 r1 => EV X b s1 (r1 :: ts) fun s2 r2 => ∃ i j, r1.is (.int i) ∧ r2.is (.int j) ∧ Φ s2 (.own (.bl (decide (i < j))))) : EV X (.Compare a [.Lt] [b] pos) ss ts Φ := ev_ci op_lt (nobehind _ (by decide) (by decide)) h
theorem ev_ge (h : EV X a ss ts fun s1 r1 => EV X b s1 (r1 :: ts) fun s2 r2 => ∃ i j, r1.is (.int i) ∧ r2.is (.int j) ∧ Φ s2 (.own (.bl (decide (j ≤ i))))) : EV X (.Compare a [.GtE] [b] pos) ss ts Φ := ev_ci op_ge (nobehind _ (by decide) (by decide)) h
theorem ev_gt (h : EV X a ss ts fun s1 r1 => EV X b s1 (r1 :: ts) fun s2 r2 => ∃ i j, r1.is (.int i) ∧ r2.is (.int j) ∧ Φ s2 (.own (.bl (decide (j < i))))) : EV X (.Compare a [.Gt] [b] pos) ss ts Φ := ev_ci op_gt (nobehind _ (by decide) (by decide)) h
theorem ev_le (h : EV X a ss ts fun s1 r1 => EV X b s1 (r1 :: ts) fun s2 r2 => ∃ i j, r1.is (.int i) ∧ r2.is (.int j) ∧ Φ s2 (.own (.bl (decide (i ≤ j))))) : EV X (.Compare a [.LtE] [b] pos) ss ts Φ := ev_ci op_le (nobehind _ (by decide) (by decide)) h

/-! ### built-in functions, types -/
def CallD (K : PySem.W.Frag) (r : List V → Hp → VK → Prop) (ds : List D) (P : D → Prop) : Prop := ∀ H vs Q, RepRs K H ds vs → (∀ d v H', P d → New K H H' v d → Q v H') → r vs H Q
theorem New.flat {K : PySem.W.Frag} {H : Hp} {v : V} {d : D} (r : RepO K H d v []) : New K H H v d := ⟨Ex.refl H, [], r, List.nodup_nil, fun _ z => nomatch z⟩
theorem reps1 {K : PySem.W.Frag} {H : Hp} {d : D} {vs : List V} (h : RepRs K H [d] vs) : ∃ v, vs = [v] ∧ RepR K H d v := by
  unfold RepRs at h
  obtain ⟨w, ws, rfl, h1, h2⟩ := h
  unfold RepRs at h2
  subst h2
  exact ⟨w, rfl, h1⟩
theorem reps2 {K : PySem.W.Frag} {H : Hp} {d e : D} {vs : List V} (h : RepRs K H [d, e] vs) : ∃ v w, vs = [v, w] ∧ RepR K H d v ∧ RepR K H e w := by
  unfold RepRs at h
  obtain ⟨w, ws, rfl, h1, h2⟩ := h
  obtain ⟨v, rfl, h3⟩ := reps1 h2
  exact ⟨w, v, rfl, h1, h3⟩
section
variable {id T : String} {r : List V → Hp → VK → Prop} {x : Str} {p : Pos}
theorem ev_callB (hc : CallR X (.builtin id) r) (hg : Gl X x) (hm : X.mg x = none) (hv : bootBuiltins x = some (.builtin id)) (h : AV X (e :: es) ss ts fun s rs => ∃ ds P, isAll rs ds ∧ CallD X.K r ds P ∧ ∀ d, P d → Φ s (.own d))
    (hn : x ≠ "__name__" := by decide) (hdb : (x == ("__debug__" : Str)) = false := by decide)
    (he : starEach (e :: es) X.env = (false, eval e X.env) :: starEach es X.env := by rfl) (hpl : (backTo pos (starEach es X.env)).any (·.1) = false := by rfl) : EV X (.Call (.Name x p) (e :: es) [] pos) ss ts Φ := fun m B σ tv H Q hm' hh kk => by
  refine toE (pe_callB hc hg hm hv pa_w hn hdb he hpl) ?_
  refine h m B σ tv H _ hm' hh fun s rs vs H1 ⟨ds, P, ia, cd, q⟩ l1 l2 hh1 => ?_
  refine cd H1 vs Q (hh1.argsOf l1 ia hm') fun d v H2 hP n => ?_
  exact kk s _ v H2 (q d hP) ((hh1.popA l1 hm').new n)
theorem ev_callTy (hc : CallR X (.type T) r) (hg : Gl X x) (hm : X.mg x = none) (hv : bootBuiltins x = some (.type T)) (h : AV X (e :: es) ss ts fun s rs => ∃ ds P, isAll rs ds ∧ CallD X.K r ds P ∧ ∀ d, P d → Φ s (.own d))
    (hn : x ≠ "__name__" := by decide) (hdb : (x == ("__debug__" : Str)) = false := by decide)
    (he : starEach (e :: es) X.env = (false, eval e X.env) :: starEach es X.env := by rfl) (hpl : (backTo pos (starEach es X.env)).any (·.1) = false := by rfl) : EV X (.Call (.Name x p) (e :: es) [] pos) ss ts Φ := fun m B σ tv H Q hm' hh kk => by
  refine toE (pe_callTy hc hg hm hv pa_w hn hdb he hpl) ?_
  refine h m B σ tv H _ hm' hh fun s rs vs H1 ⟨ds, P, ia, cd, q⟩ l1 l2 hh1 => ?_
  refine cd H1 vs Q (hh1.argsOf l1 ia hm') fun d v H2 hP n => ?_
  exact kk s _ v H2 (q d hP) ((hh1.popA l1 hm').new n)
end
def D.seqL : D → Option (List D)
  | .lst l => some l
  | .tup l => some l
  | .fz l => some l
  | _ => none
theorem D.seq_rep {K : PySem.W.Frag} {H : Hp} {d : D} {l : List D} {v : V} (h : RepR K H d v) (e : d.seqL = some l) : ∃ a vs, v = .ref a ∧ (SqL K H a vs ∨ SqT K H a vs) ∧ RepRs K H l vs := by
  cases d with
  | lst l => unfold RepR at h; cases e; obtain ⟨a, vs, h1, h2, h3⟩ := h; exact ⟨a, vs, h1, .inl (SqL.of h2), h3⟩
  | tup l => unfold RepR at h; cases e; obtain ⟨a, vs, h1, h2, h3⟩ := h; exact ⟨a, vs, h1, .inr h2, h3⟩
  | fz l => unfold RepR at h; cases e; obtain ⟨a, vs, h1, h2, h3⟩ := h; exact ⟨a, vs, h1, .inl h2, h3⟩
  | _ => cases e
/-- len -/
theorem ev_len {p : Pos} (hg : Gl X "len") (hm : X.mg "len" = none) (h : EV X e ss ts fun s r => ∃ d l, r.is d ∧ d.seqL = some l ∧ Φ s (.own (.int ((l.length : Nat) : Int))))
    (he : starEach [e] X.env = (false, eval e X.env) :: starEach [] X.env := by rfl) : EV X (.Call (.Name "len" p) [e] [] pos) ss ts Φ :=
  ev_callB call_len_seq hg hm PySem.boot_len (av_cons (h.imp fun s r ⟨d, l, e1, e2, q⟩ => av_nil ⟨[d], fun d => d = .int ((l.length : Nat) : Int), ⟨e1, trivial⟩, fun H vs Q rr k => by
    obtain ⟨v, rfl, hv⟩ := reps1 rr
    obtain ⟨a, ws, rfl, h1, h2⟩ := D.seq_rep hv e2
    refine ⟨a, ws, rfl, h1, ?_⟩
    rw [h2.length]
    exact k _ _ H rfl (.flat o_int), fun d hd => by rw [hd]; exact q⟩) he) (he := he)
theorem ev_lenS {p : Pos} (hg : Gl X "len") (hm : X.mg "len" = none) (h : EV X e ss ts fun s r => ∃ x, r.is (.str x) ∧ x.length ≤ 1000000 ∧ Φ s (.own (.int ((x.length : Nat) : Int))))
    (he : starEach [e] X.env = (false, eval e X.env) :: starEach [] X.env := by rfl) : EV X (.Call (.Name "len" p) [e] [] pos) ss ts Φ :=
  ev_callB call_len_str hg hm PySem.boot_len (av_cons (h.imp fun s r ⟨x, e1, e2, q⟩ => av_nil ⟨[.str x], fun d => d = .int ((x.length : Nat) : Int), ⟨e1, trivial⟩, fun H vs Q rr k => by
    obtain ⟨v, rfl, hv⟩ := reps1 rr
    rw [rep_str] at hv
    exact ⟨x, by rw [hv], Nat.le_trans e2 (by decide), k _ _ H rfl (.flat o_int)⟩, fun d hd => by rw [hd]; exact q⟩) he) (he := he)
/-- str of an int -/
theorem ev_strI {p : Pos} (hg : Gl X "str") (hm : X.mg "str" = none) (h : EV X e ss ts fun s r => ∃ i, r.is (.int i) ∧ i.natAbs.log2 < 1920 ∧ Φ s (.own (.str (toString i))))
    (he : starEach [e] X.env = (false, eval e X.env) :: starEach [] X.env := by rfl) : EV X (.Call (.Name "str" p) [e] [] pos) ss ts Φ :=
  ev_callTy call_str_int hg hm (by decide +kernel) (av_cons (h.imp fun s r ⟨i, e1, e2, q⟩ => av_nil ⟨[.int i], fun d => d = .str (toString i), ⟨e1, trivial⟩, fun H vs Q rr k => by
    obtain ⟨v, rfl, hv⟩ := reps1 rr
    rw [rep_int] at hv
    exact ⟨i, by rw [hv], e2, k _ _ H rfl (.flat o_str)⟩, fun d hd => by rw [hd]; exact q⟩) he) (he := he)
/-- sum of the script's ints -/
theorem reps_ints {K : PySem.W.Frag} {H : Hp} : ∀ {ns : List Int} {vs : List V}, RepRs K H (ns.map D.int) vs → vs = ns.map V.int
  | [], _, h => by rw [List.map_nil] at h; unfold RepRs at h; exact h
  | n :: ns, _, h => by
    rw [List.map_cons] at h
    unfold RepRs at h
    obtain ⟨w, ws, rfl, h1, h2⟩ := h
    rw [rep_int] at h1
    rw [h1, reps_ints h2]
    rfl
theorem ev_sum {p : Pos} (hc : X.calm = true) (hg : Gl X "sum") (hm : X.mg "sum" = none) (h : EV X e ss ts fun s r => ∃ ns : List Int, (r.is (.lst (ns.map D.int)) ∨ r.is (.fz (ns.map D.int))) ∧ Φ s (.own (.int ns.sum)))
    (he : starEach [e] X.env = (false, eval e X.env) :: starEach [] X.env := by rfl) : EV X (.Call (.Name "sum" p) [e] [] pos) ss ts Φ :=
  ev_callB (cr_sum hc) hg hm (by decide +kernel) (av_cons (h.imp fun s r ⟨ns, e1, q⟩ => av_nil (by
    have go : ∀ d, d = .lst (ns.map D.int) ∨ d = .fz (ns.map D.int) → r.is d → ∃ ds P, isAll [r] ds ∧ CallD X.K (rSum X.K) ds P ∧ ∀ d, P d → Φ s (.own d) := fun d hd e1 => by
      have e2 : d.seqL = some (ns.map D.int) := by rcases hd with rfl | rfl <;> rfl
      refine ⟨[d], fun d => d = .int ns.sum, ⟨e1, trivial⟩, fun H vs Q rr k => ?_, fun d hd => by rw [hd]; exact q⟩
      obtain ⟨v, rfl, hv⟩ := reps1 rr
      rcases hd with rfl | rfl
      · unfold RepR at hv
        obtain ⟨a, ws, rfl, h1, h2⟩ := hv
        refine ⟨a, ns, rfl, ?_, k _ _ H rfl (.flat o_int)⟩
        rw [← reps_ints h2]
        exact SqL.of h1
      · unfold RepR at hv
        obtain ⟨a, ws, rfl, h1, h2⟩ := hv
        refine ⟨a, ns, rfl, ?_, k _ _ H rfl (.flat o_int)⟩
        rw [← reps_ints h2]
        exact h1
    rcases e1 with e1 | e1
    · exact go _ (.inl rfl) e1
    · exact go _ (.inr rfl) e1)) he) (he := he)
/-- sorted of texts, of ints (below 64) -/
theorem reps_strs {K : PySem.W.Frag} {H : Hp} : ∀ {ns : List Str} {vs : List V}, RepRs K H (ns.map D.str) vs → vs = ns.map V.str
  | [], _, h => by rw [List.map_nil] at h; unfold RepRs at h; exact h
  | n :: ns, _, h => by
    rw [List.map_cons] at h
    unfold RepRs at h
    obtain ⟨w, ws, rfl, h1, h2⟩ := h
    rw [rep_str] at h1
    rw [h1, reps_strs h2]
    rfl
theorem repOs_flat {K : PySem.W.Frag} {H : Hp} {ds : List D} {vs : List V} (h : RepRs K H ds vs) (f : D.flats ds = true) : RepOs K H ds vs [] := RepRs.flatO h f
theorem reps_ofStrs {K : PySem.W.Frag} {H : Hp} : ∀ (ns : List Str), RepOs K H (ns.map D.str) (ns.map V.str) []
  | [] => by unfold RepOs; exact ⟨rfl, rfl⟩
  | n :: ns => by
    rw [List.map_cons, List.map_cons]
    unfold RepOs
    exact ⟨_, _, [], [], rfl, rfl, o_str, reps_ofStrs ns⟩
theorem reps_ofInts {K : PySem.W.Frag} {H : Hp} : ∀ (ns : List Int), RepOs K H (ns.map D.int) (ns.map V.int) []
  | [] => by unfold RepOs; exact ⟨rfl, rfl⟩
  | n :: ns => by
    rw [List.map_cons, List.map_cons]
    unfold RepOs
    exact ⟨_, _, [], [], rfl, rfl, o_int, reps_ofInts ns⟩
/-- a new list of flat items -/
theorem New.lst {K : PySem.W.Frag} {H : Hp} {p : Addr} {vs : List V} {ds : List D} (hp : H p = none) (h : ∀ H, RepOs K H ds vs []) : New K H (upd H p (.lst vs)) (.ref p) (.lst ds) :=
  ⟨Ex.new hp, [p], by unfold RepO; exact ⟨p, vs, [], rfl, upd_same, rfl, h _⟩, by simp, fun a ha => by rw [List.mem_singleton.mp ha]; exact hp⟩
/-- .. of items that stood -/
theorem New.lstF {K : PySem.W.Frag} {H : Hp} {p : Addr} {vs : List V} {ds : List D} (hp : H p = none) (h : RepOs K H ds vs []) : New K H (upd H p (.lst vs)) (.ref p) (.lst ds) :=
  ⟨Ex.new hp, [p], by unfold RepO; exact ⟨p, vs, [], rfl, upd_same, rfl, h.frame (Ex.new hp).tk fun _ z => nomatch z⟩, by simp, fun a ha => by rw [List.mem_singleton.mp ha]; exact hp⟩
theorem ev_sortedS {p : Pos} (hg : Gl X "sorted") (hm : X.mg "sorted" = none) (h : EV X e ss ts fun s r => ∃ ns : List Str, r.is (.lst (ns.map D.str)) ∧ ns.length < 64 ∧ ∀ ys : List Str, ys.Perm ns → sortedS ys = true → Φ s (.own (.lst (ys.map D.str))))
    (he : starEach [e] X.env = (false, eval e X.env) :: starEach [] X.env := by rfl) : EV X (.Call (.Name "sorted" p) [e] [] pos) ss ts Φ :=
  ev_callB cr_sortedS hg hm (by decide +kernel) (av_cons (h.imp fun s r ⟨ns, e1, e2, q⟩ => av_nil ⟨[.lst (ns.map D.str)], fun d => ∃ ys : List Str, ys.Perm ns ∧ sortedS ys = true ∧ d = .lst (ys.map D.str), ⟨e1, trivial⟩, fun H vs Q rr k => by
    obtain ⟨v, rfl, hv⟩ := reps1 rr
    unfold RepR at hv
    obtain ⟨a, ws, rfl, h1, h2⟩ := hv
    refine ⟨a, ns, rfl, ?_, e2, fun ys p hp hs hn => k _ _ _ ⟨ys, hp, hs, rfl⟩ (.lst hn fun H => reps_ofStrs ys)⟩
    rw [← reps_strs h2]
    exact SqL.of h1, fun d ⟨ys, h1, h2, hd⟩ => by rw [hd]; exact q ys h1 h2⟩) he) (he := he)

/-! ### methods of built-in types -/
def MtD (K : PySem.W.Frag) (T : String) (r : V → List V → Hp → VK → Prop) (d0 : D) (ds : List D) (P : D → Prop) : Prop := ∀ H v vs Q, RepR K H d0 v → RepRs K H ds vs → (∀ d w H', P d → New K H H' w d → Q w H') → r v vs H Q
theorem ev_bm {id T : String} {name : Str} {r : V → List V → Hp → VK → Prop} (pa : PlainAttrs T) (slot : PySem.Slot T name id) (hty : typeOf (.builtin id) = pure (.type "method_descriptor")) (hm : MtR X id r)
    (h : EV X o ss ts fun s0 r0 => ∃ d0, r0.is d0 ∧ (∀ H v, RepR X.K H d0 v → tyV X.K T v H) ∧ AV X (e :: es) s0 (r0 :: ts) fun s rs => ∃ ds P, isAll rs ds ∧ MtD X.K T r d0 ds P ∧ ∀ d, P d → Φ s (.own d))
    (hbase : attributeBase o name X.env (eval o X.env) = eval o X.env := by rfl)
    (hfew : ((backTo pos (starEach (e :: es) X.env)).all (fun x => !x.1) && (backToKw pos (keywordEach [] X.env)).all (fun x => x.1.isSome)
      && decide ((e :: es).length + ([] : List Keyword).length + (if ([] : List Keyword).isEmpty then 0 else 1) < 30)) = true := by rfl)
    (hline : (apos.endLine == pos.line) = true := by rfl) (hs : starEach (e :: es) X.env = (false, eval e X.env) :: starEach es X.env := by rfl) (hplain : (backTo pos (starEach es X.env)).any (·.1) = false := by rfl) :
    EV X (.Call (.Attribute o name apos) (e :: es) [] pos) ss ts Φ := fun m B σ tv H Q hm' hh kk => by
  refine toE (pe_bm pa slot hty hm pe_w pa_w hbase hfew hline hs hplain) ?_
  refine h m B σ tv H _ hm' hh fun s0 r0 v H1 ⟨d0, e0, ty, h2⟩ hh1 => ?_
  refine ⟨ty H1 v (hh1.top e0), ?_⟩
  refine h2 m B σ (v :: tv) H1 _ hm'.up hh1 fun s rs vs H2 ⟨ds, P, ia, md, q⟩ l1 l2 hh2 => ?_
  have hp := hh2.popA l1 hm'.up
  refine md H2 v vs Q (hp.top e0) (hh2.argsOf l1 ia hm'.up) fun d w H3 hP n => ?_
  exact kk s _ w H3 (q d hP) ((hp.pop hm').new n)
theorem ty_str {K : PySem.W.Frag} {x : Str} : ∀ H v, RepR K H (.str x) v → tyV K "str" v H := fun H v h => by
  rw [rep_str] at h
  subst h
  exact rfl
/-- text.count(text) -/
theorem ev_count (h : EV X o ss ts fun s0 r0 => ∃ x, r0.is (.str x) ∧ EV X e s0 (r0 :: ts) fun s r => ∃ y, r.is (.str y) ∧ Φ s (.own (.int (Txt.count x y))))
    (hbase : attributeBase o "count" X.env (eval o X.env) = eval o X.env := by rfl)
    (hfew : ((backTo pos (starEach [e] X.env)).all (fun x => !x.1) && (backToKw pos (keywordEach [] X.env)).all (fun x => x.1.isSome)
      && decide ([e].length + ([] : List Keyword).length + (if ([] : List Keyword).isEmpty then 0 else 1) < 30)) = true := by rfl)
    (hline : (apos.endLine == pos.line) = true := by rfl) (hs : starEach [e] X.env = (false, eval e X.env) :: starEach [] X.env := by rfl) (hplain : (backTo pos (starEach [] X.env)).any (·.1) = false := by rfl) :
    EV X (.Call (.Attribute o "count" apos) [e] [] pos) ss ts Φ :=
  ev_bm (T := "str") PySem.F.plainAttrs_str PySem.F.slot_str_count PySem.F.type_str_count mt_count (h.imp fun s0 r0 ⟨x, e0, h2⟩ => ⟨_, e0, ty_str, av_cons (h2.imp fun s r ⟨y, e1, q⟩ => av_nil ⟨[.str y], fun d => d = .int (Txt.count x y), ⟨e1, trivial⟩, fun H v vs Q r1 r2 k => by
    obtain ⟨w, rfl, hw⟩ := reps1 r2
    rw [rep_str] at r1 hw
    exact ⟨x, y, r1, by rw [hw], k _ _ H rfl (.flat o_int)⟩, fun d hd => by rw [hd]; exact q⟩) hs⟩) hbase hfew hline hs hplain

/-! ### lists that change -/
section
variable {K : PySem.W.Frag} {m : Nat → Prop} {B H : Hp} {σ : List (Option V)} {tv : List V} {v : V} {fp : Own → List Addr} {d : D} {l : List D} {i : Nat}
/-- slot i holds the list a -/
theorem HeldF.lst (h : HeldF K m B H fp σ ss tv ts) (hs : ss[i]? = some (.own (.lst l))) : ∃ a vs G, σ[i]? = some (some (.ref a)) ∧ H a = some (.lst vs) ∧ fp (.v i) = a :: G ∧ RepOs K H l vs G := by
  obtain ⟨v, e1, e2⟩ := h.var i _ hs
  unfold RepO at e2
  obtain ⟨a, vs, G, rfl, h1, h2, h3⟩ := e2
  refine ⟨a, vs, G, ?_, h1, h2, h3⟩
  cases e : σ[i]? with
  | none => rw [e] at e1; cases e1
  | some y => rw [e] at e1; have z : y = some (.ref a) := e1; rw [z]
/-- the list of slot i has other items: those of G', out of its own and of nobody's -/
theorem HeldF.relist (h : HeldF K m B H fp σ ss tv ts) (hi : i < ss.length) {a : Addr} {vs vs' : List V} {G G' : List Addr} {l' : List D} (hx : σ[i]? = some (some (.ref a))) (ha : H a = some (.lst vs)) (hf : fp (.v i) = a :: G)
    (nw : RepOs K H l' vs' G') (nd : G'.Nodup) (dj : ∀ b ∈ G', b ∈ G ∨ ((∀ o, b ∉ fp o) ∧ B b = none)) (ht : noView (.v i) ts = true) :
    Held K m B (upd H a (.lst vs')) σ ((ss.map (kill (.v i))).set i (.own (.lst l'))) tv ts := by
  have tk : TK H (upd H a (.lst vs')) := TK.upd ha fun z => z
  have n1 := h.nod (.v i)
  rw [hf] at n1
  have n2 := List.nodup_cons.mp n1
  have aG' : a ∉ G' := fun z => by
    rcases dj a z with q | q
    · exact n2.1 q
    · exact q.1 (.v i) (by rw [hf]; exact List.mem_cons_self)
  refine ⟨_, h.change (v := .ref a) (F' := a :: G') (d' := .lst l') (by rw [hx]; rfl) hi tk (fun b o hb e => ?_) ?_ (List.nodup_cons.mpr ⟨aG', nd⟩) (fun b hb => ?_) ht⟩
  · rw [upd_ne (fun z => hb (by rw [z, hf]; exact List.mem_cons_self))]
    exact e
  · unfold RepO
    exact ⟨a, vs', G', rfl, upd_same, rfl, nw.frame tk fun b hb => upd_ne fun z => aG' (z ▸ hb)⟩
  · rcases List.mem_cons.mp hb with rfl | hb
    · exact .inl (by rw [hf]; exact List.mem_cons_self)
    · rcases dj b hb with q | q
      · exact .inl (by rw [hf]; exact List.mem_cons_of_mem _ q)
      · exact .inr q
end
theorem noView_push {o : Own} {r : Slot} {l : List Slot} (h : noView o l = true) (n : ∀ d, r ≠ .view o d) : noView o (r :: l) = true := by
  cases r with
  | no => exact h
  | own _ => exact h
  | par _ => exact h
  | view o' d =>
    unfold noView
    rw [Bool.and_eq_true, decide_eq_true_eq]
    exact ⟨fun z => n d (by rw [z]), h⟩
/-- x.append(e), x a name of an owned list -/
theorem ev_append {i : Nat} {x : Str} {px : Pos} {l0 : List D} (hN : X.N[i]? = some x) (hv : Vis X.env.scope x) (h0 : ss[i]? = some (.own (.lst l0))) (hv1 : noView (.v i) ts = true)
    (h : EV X e ss ts fun s r => ∃ l d, s[i]? = some (.own (.lst l)) ∧ r = .own d ∧ l.length < 1000000 ∧ Φ ((s.map (kill (.v i))).set i (.own (.lst (l ++ [d])))) (.own .non))
    (hd : (x == ("__debug__" : Str)) = false := by decide) (hcd : (x == ("__classdict__" : Str)) = false := by decide)
    (hbase : attributeBase (.Name x px) "append" X.env (eval (.Name x px) X.env) = eval (.Name x px) X.env := by rfl)
    (hfew : ((backTo pos (starEach [e] X.env)).all (fun x => !x.1) && (backToKw pos (keywordEach [] X.env)).all (fun x => x.1.isSome)
      && decide ([e].length + ([] : List Keyword).length + (if ([] : List Keyword).isEmpty then 0 else 1) < 30)) = true := by rfl)
    (hline : (apos.endLine == pos.line) = true := by rfl) (hs : starEach [e] X.env = (false, eval e X.env) :: starEach [] X.env := by rfl) (hplain : (backTo pos (starEach [] X.env)).any (·.1) = false := by rfl) :
    EV X (.Call (.Attribute (.Name x px) "append" apos) [e] [] pos) ss ts Φ := fun m B σ tv H Q hm hh kk => by
  refine toE (pe_bm PySem.F.plainAttrs_list PySem.F.slot_list_append PySem.F.type_list_append mt_append (pe_var hN hv hd hcd) (pa_cons pe_w pa_nil hs) hbase hfew hline hs hplain) ?_
  obtain ⟨fp, hf⟩ := id hh
  obtain ⟨a, vs, G, x1, a1, _, _⟩ := hf.lst h0
  refine ⟨.ref a, x1, .inl ⟨rfl, vs, SqL.of a1⟩, ?_⟩
  refine h m B σ tv H _ hm hh fun s r y H1 ⟨l, d, hi, er, hl, q⟩ ⟨fp1, h1⟩ => ?_
  subst er
  obtain ⟨fp2, F2, h2, s2, r2, n2, o2, b2, _⟩ := h1.take hm
  obtain ⟨a', vs', G', x2, a2, f2, g2⟩ := h2.lst hi
  rw [x1] at x2
  cases x2
  have lv := g2.reps.length
  refine ⟨a, vs', y, rfl, rfl, a2, Nat.lt_trans (by omega : vs'.length < 1000000) (by decide), ?_⟩
  have nd := h2.nod (.v i)
  rw [f2] at nd
  have nd2 := (List.nodup_cons.mp nd).2
  have h3 := h2.relist (getElem?_lt hi) x1 a2 f2 (g2.append (RepOs.one r2)) (List.nodup_append.mpr ⟨nd2, n2, fun b hb c hc z => by
    subst z
    exact o2 b hc (.v i) (by rw [f2]; exact List.mem_cons_of_mem _ hb)⟩) (fun b hb => (List.mem_append.mp hb).elim .inl fun z => .inr ⟨o2 b z, b2 b z⟩) hv1
  exact kk _ _ .non _ q (h3.pushF o_non)
/-- x.extend(e), e an owned list just made -/
theorem ev_extend {i : Nat} {x : Str} {px : Pos} {l0 : List D} (hN : X.N[i]? = some x) (hv : Vis X.env.scope x) (h0 : ss[i]? = some (.own (.lst l0))) (hv1 : noView (.v i) ts = true)
    (h : EV X e ss ts fun s r => ∃ l k, s[i]? = some (.own (.lst l)) ∧ r = .own (.lst k) ∧ l.length + k.length ≤ 1000000 ∧ Φ ((s.map (kill (.v i))).set i (.own (.lst (l ++ k)))) (.own .non))
    (hd : (x == ("__debug__" : Str)) = false := by decide) (hcd : (x == ("__classdict__" : Str)) = false := by decide)
    (hbase : attributeBase (.Name x px) "extend" X.env (eval (.Name x px) X.env) = eval (.Name x px) X.env := by rfl)
    (hfew : ((backTo pos (starEach [e] X.env)).all (fun x => !x.1) && (backToKw pos (keywordEach [] X.env)).all (fun x => x.1.isSome)
      && decide ([e].length + ([] : List Keyword).length + (if ([] : List Keyword).isEmpty then 0 else 1) < 30)) = true := by rfl)
    (hline : (apos.endLine == pos.line) = true := by rfl) (hs : starEach [e] X.env = (false, eval e X.env) :: starEach [] X.env := by rfl) (hplain : (backTo pos (starEach [] X.env)).any (·.1) = false := by rfl) :
    EV X (.Call (.Attribute (.Name x px) "extend" apos) [e] [] pos) ss ts Φ := fun m B σ tv H Q hm hh kk => by
  refine toE (pe_bm PySem.F.plainAttrs_list PySem.F.slot_list_extend PySem.F.type_list_extend mt_extend (pe_var hN hv hd hcd) (pa_cons pe_w pa_nil hs) hbase hfew hline hs hplain) ?_
  obtain ⟨fp, hf⟩ := id hh
  obtain ⟨a, vs, G, x1, a1, _, _⟩ := hf.lst h0
  refine ⟨.ref a, x1, .inl ⟨rfl, vs, SqL.of a1⟩, ?_⟩
  refine h m B σ tv H _ hm hh fun s r y H1 ⟨l, k, hi, er, hl, q⟩ ⟨fp1, h1⟩ => ?_
  subst er
  obtain ⟨fp2, F2, h2, s2, r2, n2, o2, b2, _⟩ := h1.take hm
  obtain ⟨a', vs', G', x2, a2, f2, g2⟩ := h2.lst hi
  rw [x1] at x2
  cases x2
  unfold RepO at r2
  obtain ⟨b, ws, G2, rfl, a3, f3, g3⟩ := r2
  subst f3
  have lv := g2.reps.length
  have lw := g3.reps.length
  refine ⟨a, b, vs', ws, rfl, rfl, a2, a3, Nat.le_trans (by omega : vs'.length + ws.length ≤ 1000000) (by decide), ?_⟩
  have nd := h2.nod (.v i)
  rw [f2] at nd
  have nd2 := (List.nodup_cons.mp nd).2
  have h3 := h2.relist (getElem?_lt hi) x1 a2 f2 (g2.append g3) (List.nodup_append.mpr ⟨nd2, (List.nodup_cons.mp n2).2, fun b' hb c hc z => by
    subst z
    exact o2 b' (List.mem_cons_of_mem _ hc) (.v i) (by rw [f2]; exact List.mem_cons_of_mem _ hb)⟩) (fun b' hb => (List.mem_append.mp hb).elim .inl fun z => .inr ⟨o2 b' (List.mem_cons_of_mem _ z), b2 b' (List.mem_cons_of_mem _ z)⟩) hv1
  exact kk _ _ .non _ q (h3.pushF o_non)
end
end DL
/-! The data layer, part 7: rules whose kind is told by the operands. -/
namespace DL
open PySem PySem.Spec PyProof.Rows L2

mutual
/-- plain data, at most n deep -/
def D.pl : Nat → D → Bool
  | _, .non => true
  | _, .bl _ => false
  | _, .int _ => true
  | _, .str x => PyData.strOk x
  | _, .raw _ => false
  | _, .fz _ => false
  | _, .ins _ _ _ => false
  | 0, .tup _ => false
  | 0, .lst _ => false
  | n + 1, .tup l => D.pls n l
  | n + 1, .lst l => D.pls n l
def D.pls : Nat → List D → Bool
  | _, [] => true
  | n, d :: ds => D.pl n d && D.pls n ds
end
mutual
theorem D.pl_py : ∀ {n : Nat} {d : D}, d.pl n = true → ∃ p, d.py = some p ∧ p.canLay0 = true ∧ p.depth ≤ n
  | _, .non, _ => ⟨.none, by unfold D.py; rfl, by unfold PyData.canLay0; rfl, by unfold PyData.depth; exact Nat.zero_le _⟩
  | _, .bl _, h => by unfold D.pl at h; cases h
  | _, .int i, _ => ⟨.int i, by unfold D.py; rfl, by unfold PyData.canLay0; rfl, by unfold PyData.depth; exact Nat.zero_le _⟩
  | _, .str x, h => ⟨.str x, by unfold D.py; rfl, by unfold D.pl at h; unfold PyData.canLay0; exact h, by unfold PyData.depth; exact Nat.zero_le _⟩
  | _, .raw _, h => by unfold D.pl at h; cases h
  | _, .fz _, h => by unfold D.pl at h; cases h
  | _, .ins _ _ _, h => by unfold D.pl at h; cases h
  | 0, .tup _, h => by unfold D.pl at h; cases h
  | 0, .lst _, h => by unfold D.pl at h; cases h
  | n + 1, .tup l, h => by
    unfold D.pl at h
    obtain ⟨ps, e1, e2, e3⟩ := D.pls_py h
    exact ⟨.tuple ps, by unfold D.py; rw [e1]; rfl, by unfold PyData.canLay0; exact e2, by unfold PyData.depth; omega⟩
  | n + 1, .lst l, h => by
    unfold D.pl at h
    obtain ⟨ps, e1, e2, e3⟩ := D.pls_py h
    exact ⟨.list ps, by unfold D.py; rw [e1]; rfl, by unfold PyData.canLay0; exact e2, by unfold PyData.depth; omega⟩
theorem D.pls_py : ∀ {n : Nat} {ds : List D}, D.pls n ds = true → ∃ ps, D.pys ds = some ps ∧ PyData.canLayAll0 ps = true ∧ PyData.depthAll ps ≤ n
  | _, [], _ => ⟨[], by unfold D.pys; rfl, by unfold PyData.canLayAll0; rfl, by unfold PyData.depthAll; exact Nat.zero_le _⟩
  | n, d :: ds, h => by
    unfold D.pls at h
    rw [Bool.and_eq_true] at h
    obtain ⟨p, e1, e2, e3⟩ := D.pl_py h.1
    obtain ⟨ps, f1, f2, f3⟩ := D.pls_py h.2
    refine ⟨p :: ps, by unfold D.pys; rw [e1, f1], by unfold PyData.canLayAll0; rw [e2, f2]; rfl, by unfold PyData.depthAll; omega⟩
end
noncomputable def deq (x y : D) : Bool := @decide (x = y) (Classical.propDecidable _)
theorem deq_iff {x y : D} : deq x y = true ↔ x = y := by
  unfold deq
  exact ⟨fun h => @of_decide_eq_true _ (Classical.propDecidable _) h, fun h => @decide_eq_true _ (Classical.propDecidable _) h⟩
theorem deq_self {x : D} : deq x x = true := deq_iff.mpr rfl
theorem deq_of {x y : D} (h : x = y) : deq x y = true := deq_iff.mpr h
theorem deq_not {x y : D} (h : x ≠ y) : deq x y = false := by
  cases e : deq x y with
  | false => rfl
  | true => exact absurd (deq_iff.mp e) h
mutual
theorem D.eqv_iff : ∀ {n m : Nat} {d e : D} {p q : PyData}, d.pl n = true → e.pl m = true → d.py = some p → e.py = some q → (PyData.eqv p q = true ↔ d = e)
  | n, m, d, e, p, q, h1, h2, h3, h4 => by
    cases d with
    | bl _ => unfold D.pl at h1; cases h1
    | raw _ => unfold D.pl at h1; cases h1
    | fz _ => unfold D.pl at h1; cases h1
    | ins _ _ _ => unfold D.pl at h1; cases h1
    | non =>
      unfold D.py at h3; cases h3
      cases e with
      | bl _ => unfold D.pl at h2; cases h2
      | raw _ => unfold D.pl at h2; cases h2
      | fz _ => unfold D.pl at h2; cases h2
      | ins _ _ _ => unfold D.pl at h2; cases h2
      | non => unfold D.py at h4; cases h4; simp [PyData.eqv]
      | int _ => unfold D.py at h4; cases h4; simp [PyData.eqv]
      | str _ => unfold D.py at h4; cases h4; simp [PyData.eqv]
      | tup _ => unfold D.py at h4; obtain ⟨_, _, rfl⟩ := Option.map_eq_some_iff.mp h4; simp [PyData.eqv]
      | lst _ => unfold D.py at h4; obtain ⟨_, _, rfl⟩ := Option.map_eq_some_iff.mp h4; simp [PyData.eqv]
    | int i =>
      unfold D.py at h3; cases h3
      cases e with
      | bl _ => unfold D.pl at h2; cases h2
      | raw _ => unfold D.pl at h2; cases h2
      | fz _ => unfold D.pl at h2; cases h2
      | ins _ _ _ => unfold D.pl at h2; cases h2
      | non => unfold D.py at h4; cases h4; simp [PyData.eqv]
      | int _ => unfold D.py at h4; cases h4; simp [PyData.eqv]
      | str _ => unfold D.py at h4; cases h4; simp [PyData.eqv]
      | tup _ => unfold D.py at h4; obtain ⟨_, _, rfl⟩ := Option.map_eq_some_iff.mp h4; simp [PyData.eqv]
      | lst _ => unfold D.py at h4; obtain ⟨_, _, rfl⟩ := Option.map_eq_some_iff.mp h4; simp [PyData.eqv]
    | str i =>
      unfold D.py at h3; cases h3
      cases e with
      | bl _ => unfold D.pl at h2; cases h2
      | raw _ => unfold D.pl at h2; cases h2
      | fz _ => unfold D.pl at h2; cases h2
      | ins _ _ _ => unfold D.pl at h2; cases h2
      | non => unfold D.py at h4; cases h4; simp [PyData.eqv]
      | int _ => unfold D.py at h4; cases h4; simp [PyData.eqv]
      | str _ => unfold D.py at h4; cases h4; simp [PyData.eqv]
      | tup _ => unfold D.py at h4; obtain ⟨_, _, rfl⟩ := Option.map_eq_some_iff.mp h4; simp [PyData.eqv]
      | lst _ => unfold D.py at h4; obtain ⟨_, _, rfl⟩ := Option.map_eq_some_iff.mp h4; simp [PyData.eqv]
    | tup l =>
      unfold D.py at h3; obtain ⟨ps, hp, rfl⟩ := Option.map_eq_some_iff.mp h3
      cases n with
      | zero => unfold D.pl at h1; cases h1
      | succ n =>
        unfold D.pl at h1
        cases e with
        | bl _ => unfold D.pl at h2; cases h2
        | raw _ => unfold D.pl at h2; cases h2
        | fz _ => unfold D.pl at h2; cases h2
        | ins _ _ _ => unfold D.pl at h2; cases h2
        | non => unfold D.py at h4; cases h4; simp [PyData.eqv]
        | int _ => unfold D.py at h4; cases h4; simp [PyData.eqv]
        | str _ => unfold D.py at h4; cases h4; simp [PyData.eqv]
        | lst _ => unfold D.py at h4; obtain ⟨_, _, rfl⟩ := Option.map_eq_some_iff.mp h4; simp [PyData.eqv]
        | tup k =>
          cases m with
          | zero => unfold D.pl at h2; cases h2
          | succ m =>
            unfold D.pl at h2
            unfold D.py at h4
            obtain ⟨qs, hq, rfl⟩ := Option.map_eq_some_iff.mp h4
            have := D.eqvs_iff h1 h2 hp hq
            simpa [PyData.eqv] using this
    | lst l =>
      unfold D.py at h3; obtain ⟨ps, hp, rfl⟩ := Option.map_eq_some_iff.mp h3
      cases n with
      | zero => unfold D.pl at h1; cases h1
      | succ n =>
        unfold D.pl at h1
        cases e with
        | bl _ => unfold D.pl at h2; cases h2
        | raw _ => unfold D.pl at h2; cases h2
        | fz _ => unfold D.pl at h2; cases h2
        | ins _ _ _ => unfold D.pl at h2; cases h2
        | non => unfold D.py at h4; cases h4; simp [PyData.eqv]
        | int _ => unfold D.py at h4; cases h4; simp [PyData.eqv]
        | str _ => unfold D.py at h4; cases h4; simp [PyData.eqv]
        | tup _ => unfold D.py at h4; obtain ⟨_, _, rfl⟩ := Option.map_eq_some_iff.mp h4; simp [PyData.eqv]
        | lst k =>
          cases m with
          | zero => unfold D.pl at h2; cases h2
          | succ m =>
            unfold D.pl at h2
            unfold D.py at h4
            obtain ⟨qs, hq, rfl⟩ := Option.map_eq_some_iff.mp h4
            have := D.eqvs_iff h1 h2 hp hq
            simpa [PyData.eqv] using this
  termination_by n _ _ _ _ _ _ _ _ _ => (n, 0)
theorem D.eqvs_iff : ∀ {n m : Nat} {ds es : List D} {ps qs : List PyData}, D.pls n ds = true → D.pls m es = true → D.pys ds = some ps → D.pys es = some qs → (PyData.eqvAll ps qs = true ↔ ds = es)
  | n, m, [], [], ps, qs, _, _, h3, h4 => by unfold D.pys at h3 h4; cases h3; cases h4; simp [PyData.eqvAll]
  | n, m, [], e :: es, ps, qs, _, h2, h3, h4 => by
    unfold D.pys at h3; cases h3
    unfold D.pys at h4
    split at h4
    · cases h4; simp [PyData.eqvAll]
    · cases h4
  | n, m, d :: ds, [], ps, qs, h1, _, h3, h4 => by
    unfold D.pys at h4; cases h4
    unfold D.pys at h3
    split at h3
    · cases h3; simp [PyData.eqvAll]
    · cases h3
  | n, m, d :: ds, e :: es, ps, qs, h1, h2, h3, h4 => by
    unfold D.pls at h1 h2
    rw [Bool.and_eq_true] at h1 h2
    unfold D.pys at h3 h4
    split at h3
    · rename_i p ps' p1 p2
      cases h3
      split at h4
      · rename_i q qs' q1 q2
        cases h4
        have a := D.eqv_iff h1.1 h2.1 p1 q1
        have b := D.eqvs_iff h1.2 h2.2 p2 q2
        simp only [PyData.eqvAll, Bool.and_eq_true, a, b, List.cons.injEq]
      · cases h4
    · cases h3
  termination_by n _ ds _ _ _ _ _ _ _ => (n, ds.length + 1)
end
theorem D.eqv_eq {n m : Nat} {d e : D} {p q : PyData} (h1 : d.pl n = true) (h2 : e.pl m = true) (h3 : d.py = some p) (h4 : e.py = some q) : PyData.eqv p q = deq d e := by
  have := D.eqv_iff h1 h2 h3 h4
  cases e1 : PyData.eqv p q with
  | true => exact (deq_of (this.mp e1)).symm
  | false => exact (deq_not fun z => by rw [this.mpr z] at e1; cases e1).symm
theorem D.shaped_of {n : Nat} {d : D} {p : PyData} (h : d.pl n = true) (hn : n ≤ 64) (e : d.py = some p) : SeqAt.shaped p = true := by
  obtain ⟨p', e1, e2, e3⟩ := D.pl_py h
  rw [e] at e1
  cases e1
  unfold SeqAt.shaped
  rw [e2, decide_eq_true (Nat.le_trans e3 hn)]
  rfl

section
variable {X : Cx} {fx : List Nat} {ss ts : List Slot} {Φ : List Slot → Slot → Prop} {e a b c tg it o : Expr} {es : List Expr} {pos p2 apos : Pos} {E : DE} {Θ : List Slot → Bool → Prop}
/-- flat data from outside, as owned -/
theorem ev_varPF {i : Nat} {x : Str} {d : D} (hN : X.N[i]? = some x) (hv : Vis X.env.scope x) (hs : ss[i]? = some (.par d)) (hf : d.flat = true) (q : Φ ss (.own d)) (hd : (x == ("__debug__" : Str)) = false := by decide) (hcd : (x == ("__classdict__" : Str)) = false := by decide) :
    EV X (.Name x pos) ss ts Φ := fun m B σ tv H Q hm h k => by
  refine toE (pe_var hN hv hd hcd) ?_
  obtain ⟨fp, h⟩ := h
  obtain ⟨v, e1, e2⟩ := h.var i _ hs
  have ex : σ[i]? = some (some v) := by
    cases e : σ[i]? with
    | none => rw [e] at e1; cases e1
    | some y => rw [e] at e1; have z : y = some v := e1; rw [z]
  exact ⟨v, ex, k ss _ v H q ⟨_, h.pushF ((e2.mono h.base).flatO hf)⟩⟩
theorem tv_eqP (n : Nat) (hn : n ≤ 64) (hu : X.A.units + 64 < cLine) (h : EV X a ss ts fun s1 r1 => EV X b s1 (r1 :: ts) fun s2 r2 => ∃ d1 d2, r1.is d1 ∧ r2.is d2 ∧ d1.pl n = true ∧ d2.pl n = true ∧ Θ s2 (deq d1 d2)) : TV X (.Compare a [.Eq] [b] pos) ss ts Θ :=
  tv_eqD hu (h.imp fun s1 r1 h1 => h1.imp fun s2 r2 ⟨d1, d2, e1, e2, p1, p2, q⟩ => by
    obtain ⟨x, x1, x2, x3⟩ := D.pl_py p1
    obtain ⟨y, y1, y2, y3⟩ := D.pl_py p2
    exact ⟨d1, d2, x, y, e1, e2, x1, y1, D.shaped_of p1 hn x1, D.shaped_of p2 hn y1, by rw [D.eqv_eq p1 p2 x1 y1]; exact q⟩)
theorem tv_neP (n : Nat) (hn : n ≤ 64) (hu : X.A.units + 64 < cLine) (h : EV X a ss ts fun s1 r1 => EV X b s1 (r1 :: ts) fun s2 r2 => ∃ d1 d2, r1.is d1 ∧ r2.is d2 ∧ d1.pl n = true ∧ d2.pl n = true ∧ Θ s2 (!deq d1 d2)) : TV X (.Compare a [.NotEq] [b] pos) ss ts Θ :=
  tv_neD hu (h.imp fun s1 r1 h1 => h1.imp fun s2 r2 ⟨d1, d2, e1, e2, p1, p2, q⟩ => by
    obtain ⟨x, x1, x2, x3⟩ := D.pl_py p1
    obtain ⟨y, y1, y2, y3⟩ := D.pl_py p2
    exact ⟨d1, d2, x, y, e1, e2, x1, y1, D.shaped_of p1 hn x1, D.shaped_of p2 hn y1, by rw [D.eqv_eq p1 p2 x1 y1]; exact q⟩)
theorem ev_eqP (n : Nat) (hn : n ≤ 64) (hu : X.A.units + 64 < cLine) (h : EV X a ss ts fun s1 r1 => EV X b s1 (r1 :: ts) fun s2 r2 => ∃ d1 d2, r1.is d1 ∧ r2.is d2 ∧ d1.pl n = true ∧ d2.pl n = true ∧ Φ s2 (.own (.bl (deq d1 d2)))) : EV X (.Compare a [.Eq] [b] pos) ss ts Φ :=
  ev_eqD hu (h.imp fun s1 r1 h1 => h1.imp fun s2 r2 ⟨d1, d2, e1, e2, p1, p2, q⟩ => by
    obtain ⟨x, x1, x2, x3⟩ := D.pl_py p1
    obtain ⟨y, y1, y2, y3⟩ := D.pl_py p2
    exact ⟨d1, d2, x, y, e1, e2, x1, y1, D.shaped_of p1 hn x1, D.shaped_of p2 hn y1, by rw [D.eqv_eq p1 p2 x1 y1]; exact q⟩)

/-! ### slots in normal form -/
theorem sv_norm {sts : List Stmt} {ss' : List Slot} (e : ss = ss') (h : SV X fx sts ss' ts E) : SV X fx sts ss ts E := by rw [e]; exact h
theorem s1_norm {st : Stmt} {ss' : List Slot} (e : ss = ss') (h : S1 X fx st ss' ts E) : S1 X fx st ss ts E := by rw [e]; exact h
theorem ev_norm {ss' : List Slot} (e : ss = ss') (h : EV X a ss' ts Φ) : EV X a ss ts Φ := by rw [e]; exact h

/-- slots forgotten -/
theorem sv_forget {sts : List Stmt} (vs : List Nat) (h : SV X fx sts (wipeS vs ss) ts E) : SV X fx sts ss ts E := fun B σ tv H D hh k => h B σ tv H D (hh.other rfl fun _ _ => rfl) k
/-! ### x + y, by the operands -/
def addR (K : PySem.W.Frag) : R2 := fun x y H Q => (∃ i j, x = .int i ∧ y = .int j ∧ Q (.int (i + j)) H) ∨ (∃ i j, x = .str i ∧ y = .str j ∧ i.length + j.length ≤ sizeLine ∧ Q (.str (i ++ j)) H)
theorem op_addR : OpR X (binaryOp .Add) (addR X.K) := by
  intro pins s σ H x y v u Q I rx ry h
  rcases h with h | h
  · exact op_add pins s σ H x y v u Q I rx ry h
  · exact op_add_str pins s σ H x y v u Q I rx ry h
/-- ints or texts -/
theorem ev_addG (h : EV X a ss ts fun s1 r1 => EV X b s1 (r1 :: ts) fun s2 r2 => (∃ i j, r1.is (.int i) ∧ r2.is (.int j) ∧ Φ s2 (.own (.int (i + j)))) ∨ ∃ x y, r1.is (.str x) ∧ r2.is (.str y) ∧ x.length + y.length ≤ 1000000 ∧ Φ s2 (.own (.str (x ++ y)))) : EV X (.BinOp a .Add b pos) ss ts Φ :=
  ev_op2 op_addR (h.imp fun s1 r1 h1 => h1.imp fun s2 r2 hh => by
    rcases hh with ⟨i, j, e1, e2, q⟩ | ⟨i, j, e1, e2, hc, q⟩
    · exact ⟨_, _, _, e1, e2, fun H x y rx ry => ⟨.int (i + j), fun H => o_int, fun Q q => by
        rw [rep_int] at rx ry
        exact .inl ⟨i, j, rx, ry, q⟩⟩, q⟩
    · exact ⟨_, _, _, e1, e2, fun H x y rx ry => ⟨.str (i ++ j), fun H => o_str, fun Q q => by
        rw [rep_str] at rx ry
        exact .inr ⟨i, j, rx, ry, Nat.le_trans hc (by decide), q⟩⟩, q⟩)
/-! ### subscripts -/
/-- o[i] of flat data -/
theorem ev_ix (hs : PlainIx b) (h : EV X a ss ts fun s1 r1 => EV X b s1 (r1 :: ts) fun s2 r2 => ∃ d0 l i d, r1.is d0 ∧ d0.seqL = some l ∧ r2.is (.int i) ∧ atI l i = some d ∧ d.flat = true ∧ Φ s2 (.own d)) : EV X (.Subscript a b pos) ss ts Φ := fun m B σ tv H Q hm hh k => by
  refine toE (pe_ix ix_seq pe_w pe_w hs) ?_
  refine h m B σ tv H _ hm hh fun s1 r1 x H1 h1 hh1 => ?_
  refine h1 m B σ (x :: tv) H1 _ hm.up hh1 fun s2 r2 y H2 ⟨d0, l, i, d, e1, e2, e3, e4, fl, q⟩ hh2 => ?_
  have z1 := hh2.top2 e1
  have z2 := hh2.top e3
  rw [rep_int] at z2
  obtain ⟨p, vs, rfl, sq, rr⟩ := D.seq_rep z1 e2
  have hl := rr.length
  unfold atI at e4
  rw [← hl] at e4
  obtain ⟨j, j1, j2⟩ := Option.bind_eq_some_iff.mp e4
  obtain ⟨w, w1, w2⟩ := rr.get j2
  have e5 : atI vs i = some w := by unfold atI; rw [j1]; exact w1
  have fin := k s2 _ w H2 q (((hh2.pop hm.up).pop hm).pushF (w2.flatO fl))
  rcases sq with sq | sq
  · exact .inl ⟨p, vs, i, w, rfl, z2, sq, e5, fin⟩
  · exact .inr (.inl ⟨p, vs, i, w, rfl, z2, sq, e5, fin⟩)
end
end DL
/-! The data layer, part 8: the rules in short. -/
namespace DL
open PySem PySem.Spec PyProof.Rows L2
section
variable {X : Cx} {fx : List Nat} {ss ts : List Slot} {Φ : List Slot → Slot → Prop} {e a b c tg it o : Expr} {es : List Expr} {pos p2 apos px py : Pos} {E : DE} {Θ : List Slot → Bool → Prop} {x y : Str} {d : D} {ow : Own} {Ψ : List Slot → List Slot → List El → Prop}
/-- the name in slot i: flat data | from outside | lent | owned and lent | given away -/
theorem vF (i : Nat) (q : Φ ss (.own d)) (hs : ss[i]? = some (.own d) := by rfl) (hf : d.flat = true := by rfl) (hN : X.N[i]? = some x := by rfl) (hv : Vis X.env.scope x := by first | exact Or.inl rfl | exact Or.inr (Or.inl rfl) | exact Or.inr (Or.inr rfl)) (hd : (x == ("__debug__" : Str)) = false := by decide) (hcd : (x == ("__classdict__" : Str)) = false := by decide) :
    EV X (.Name x pos) ss ts Φ := ev_var hN hv hs hf q hd hcd
theorem vPF (i : Nat) (q : Φ ss (.own d)) (hs : ss[i]? = some (.par d) := by rfl) (hf : d.flat = true := by rfl) (hN : X.N[i]? = some x := by rfl) (hv : Vis X.env.scope x := by first | exact Or.inl rfl | exact Or.inr (Or.inl rfl) | exact Or.inr (Or.inr rfl)) (hd : (x == ("__debug__" : Str)) = false := by decide) (hcd : (x == ("__classdict__" : Str)) = false := by decide) :
    EV X (.Name x pos) ss ts Φ := ev_varPF hN hv hs hf q hd hcd
theorem vP (i : Nat) (q : Φ ss (.par d)) (hs : ss[i]? = some (.par d) := by rfl) (hN : X.N[i]? = some x := by rfl) (hv : Vis X.env.scope x := by first | exact Or.inl rfl | exact Or.inr (Or.inl rfl) | exact Or.inr (Or.inr rfl)) (hd : (x == ("__debug__" : Str)) = false := by decide) (hcd : (x == ("__classdict__" : Str)) = false := by decide) :
    EV X (.Name x pos) ss ts Φ := ev_varP hN hv hs q hd hcd
theorem vV (i : Nat) (q : Φ ss (.view ow d)) (hs : ss[i]? = some (.view ow d) := by rfl) (hN : X.N[i]? = some x := by rfl) (hv : Vis X.env.scope x := by first | exact Or.inl rfl | exact Or.inr (Or.inl rfl) | exact Or.inr (Or.inr rfl)) (hd : (x == ("__debug__" : Str)) = false := by decide) (hcd : (x == ("__classdict__" : Str)) = false := by decide) :
    EV X (.Name x pos) ss ts Φ := ev_varV hN hv hs q hd hcd
theorem vL (i : Nat) (q : Φ ss (.view (.v i) d)) (hs : ss[i]? = some (.own d) := by rfl) (hN : X.N[i]? = some x := by rfl) (hv : Vis X.env.scope x := by first | exact Or.inl rfl | exact Or.inr (Or.inl rfl) | exact Or.inr (Or.inr rfl)) (hd : (x == ("__debug__" : Str)) = false := by decide) (hcd : (x == ("__classdict__" : Str)) = false := by decide) :
    EV X (.Name x pos) ss ts Φ := ev_varL hN hv hs q hd hcd
theorem vM (i : Nat) (q : Φ ((ss.map (kill (.v i))).set i .no) (.own d)) (hs : ss[i]? = some (.own d) := by rfl) (ht : noView (.v i) ts = true := by rfl) (hN : X.N[i]? = some x := by rfl) (hv : Vis X.env.scope x := by first | exact Or.inl rfl | exact Or.inr (Or.inl rfl) | exact Or.inr (Or.inr rfl)) (hd : (x == ("__debug__" : Str)) = false := by decide) (hcd : (x == ("__classdict__" : Str)) = false := by decide) :
    EV X (.Name x pos) ss ts Φ := ev_varM hN hv hs ht q hd hcd
/-- name = e (slot i) -/
theorem sSet (i : Nat) {pos' : Pos} (hN : X.N.Nodup) (h : EV X e ss ts fun s r => s.length = ss.length ∧ noView (.v i) (r :: ts) = true ∧ E.nx ((s.map (kill (.v i))).set i r)) (hi : X.N[i]? = some x := by rfl) (hx : Loc X.env.scope x := by first | exact Or.inl rfl | exact Or.inr rfl) (hfx : i ∉ fx := by decide) (hil : (ss[i]?).isSome = true := by rfl)
    (hs : swapsWith e (some (.Name x pos')) pos.line X.env = pure false := by rfl) (hf : X.fn x = true ∨ X.env.scope.names.lookup x = some .local := by first | exact .inl rfl | exact .inr rfl) : S1 X fx (.Assign [.Name x pos'] e pos) ss ts E :=
  s1_set hN hi hx hfx hil h hs hf
/-- name = [..] -/
theorem sSetLc (i : Nat) {elt iter : Expr} {ifs : List Expr} {scope : Scope} {spos : Pos} (own : List (Str × Nat)) (hN : X.N.Nodup) (ok : BlkOk X.N X.env.scope scope own)
    (h : IV X tg iter ss ts fun s1 rs els => ∃ I : Nat → List Slot → List D → Prop, I 0 (wipeS (own.map (·.2)) s1) [] ∧
      (∀ i el s acc, els[i]? = some el → I i s acc → LcTurn X elt tg ifs scope (own.map (·.2)) el s (rs ++ ts) acc (I (i + 1))) ∧
      ∀ s acc, I els.length s acc → s.length = ss.length ∧ noView (.v i) ts = true ∧ E.nx (((s.map (killT ts.length)).map (kill (.v i))).set i (.own (.lst acc))))
    (hc : X.calm = true := by rfl) (hy : X.N[i]? = some y := by rfl) (hyl : X.env.scope.names.lookup y = some .local := by rfl)
    (hfx : i ∉ fx := by decide) (hil : (ss[i]?).isSome = true := by rfl)
    (hsw : swapsWith (.ListComp elt [⟨tg, iter, ifs, 0⟩] scope pos) (some (.Name y py)) spos.line X.env = pure true := by exact sw_true rfl rfl rfl (by decide +kernel))
    (hs : ∀ x, foldedSetIterable iter X.env x = pure x := by intro _; rfl) : S1 X fx (.Assign [.Name y py] (.ListComp elt [⟨tg, iter, ifs, 0⟩] scope pos) spos) ss ts E :=
  s1_setLc own hc hN hy hyl hsw ok hfx hil h hs
theorem eLc {elt iter : Expr} {ifs : List Expr} {scope : Scope} (own : List (Str × Nat)) (hN : X.N.Nodup) (ok : BlkOk X.N X.env.scope scope own)
    (h : IV X tg iter ss ts fun s1 rs els => ∃ I : Nat → List Slot → List D → Prop, I 0 (wipeS (own.map (·.2)) s1) [] ∧
      (∀ i el s acc, els[i]? = some el → I i s acc → LcTurn X elt tg ifs scope (own.map (·.2)) el s (rs ++ ts) acc (I (i + 1))) ∧ ∀ s acc, I els.length s acc → Φ (s.map (killT ts.length)) (.own (.lst acc)))
    (hc : X.calm = true := by rfl)
    (hs : ∀ x, foldedSetIterable iter X.env x = pure x := by intro _; rfl) : EV X (.ListComp elt [⟨tg, iter, ifs, 0⟩] scope pos) ss ts Φ := ev_lc own hc hN ok h hs
theorem sFor (as : List Nat) {sts : List Stmt} (h : IV X tg it ss ts fun s1 rs els => ∃ I : Nat → List Slot → Prop, I 0 s1 ∧
      (∀ i el s, els[i]? = some el → I i s → GV X tg as el s (rs ++ ts) fun s' => SV X fx sts s' (rs ++ ts)
        { nx := I (i + 1), ct := I (i + 1), bk := fun s => E.nx (s.map (killT ts.length)), rt := fun s r => ∃ d, r = .own d ∧ E.rt (s.map (killT ts.length)) (.own d) }) ∧
      ∀ s, I els.length s → E.nx (s.map (killT ts.length)))
    (hp : PassesOwn (model X.prog X.w) X.A X.env X.xe := by exact PassesOwn.never) (hc : X.calm = true := by rfl) (hfx : ∀ i, i ∈ fx → i ∉ as := by decide)
    (hs : ∀ x, foldedSetIterable it X.env x = pure x := by intro _; rfl) : S1 X fx (.For tg it sts [] pos) ss ts E := s1_for hp hc hfx h hs
theorem gOne (i : Nat) {s : Slot} {as : List Nat} {N : List Slot → Prop} (hN : X.N.Nodup) (q : N ((ss.map (kill (.v i))).set i s)) (hi : X.N[i]? = some x := by rfl) (hx : Loc X.env.scope x := by first | exact Or.inl rfl | exact Or.inr rfl) (ha : i ∈ as := by decide) (hil : (ss[i]?).isSome = true := by rfl) (n1 : noView (.v i) (s :: ts) = true := by rfl)
    (hf : X.fn x = true ∨ X.env.scope.names.lookup x = some .local := by first | exact .inl rfl | exact .inr rfl) : GV X (.Name x pos) as (.one s) ss ts N := gv_name hN hi hx ha hil n1 q hf
theorem gTwo (i j : Nat) {s1 s2 : Slot} {as : List Nat} {k : Nat} {N : List Slot → Prop} (hN : X.N.Nodup) (q : N ((((ss.map (kill (.v j))).set j s2).map (kill (.v i))).set i s1)) (hc : X.calm = true := by rfl) (hi : X.N[i]? = some x := by rfl) (hj : X.N[j]? = some y := by rfl) (hij : i ≠ j := by decide)
    (hx : Loc X.env.scope x := by first | exact Or.inl rfl | exact Or.inr rfl) (hy : Loc X.env.scope y := by first | exact Or.inl rfl | exact Or.inr rfl)
    (ha : i ∈ as := by decide) (hb : j ∈ as := by decide) (hil : (ss[i]?).isSome = true := by rfl) (hjl : (ss[j]?).isSome = true := by rfl) (n1 : noView (.v i) (s1 :: ts) = true := by rfl) (n2 : noView (.v j) (s2 :: s1 :: ts) = true := by rfl)
    (hf : X.fn x = true ∨ X.env.scope.names.lookup x = some .local := by first | exact .inl rfl | exact .inr rfl) (hg : X.fn y = true ∨ X.env.scope.names.lookup y = some .local := by first | exact .inl rfl | exact .inr rfl)
    (hn : (assignEach [.Name x px, .Name y py] X.env).length = 2 := by rfl) (hst : (assignEach [.Name x px, .Name y py] X.env).findIdx? (·.1) = none := by rfl)
    (hs1 : (assignEach [.Name x px, .Name y py] X.env).map (·.2) = assign (.Name x px) X.env :: (assignEach [.Name y py] X.env).map (·.2) := by rfl) (hs2 : (assignEach [.Name y py] X.env).map (·.2) = assign (.Name y py) X.env :: (assignEach [] X.env).map (·.2) := by rfl) :
    GV X (.Tuple [.Name x px, .Name y py] k pos) as (.two s1 s2) ss ts N := gv_two hc hN hi hj hij hx hy ha hb hil hjl n1 n2 q hf hg hn hst hs1 hs2
/-- [..] -/
theorem eLst {k : Pos} (h : AV X es ss ts fun s rs => ∃ ds, rs = ds.map Slot.own ∧ ds.length ≤ 1000 ∧ Φ s (.own (.lst ds))) : EV X (.List es k) ss ts Φ := ev_lst h
/-- x.append(..), x in slot i -/
theorem eApp (i : Nat) {l0 : List D} (h : EV X e ss ts fun s r => ∃ l d, s[i]? = some (.own (.lst l)) ∧ r = .own d ∧ l.length < 1000000 ∧ Φ ((s.map (kill (.v i))).set i (.own (.lst (l ++ [d])))) (.own .non))
    (hN : X.N[i]? = some x := by rfl) (hv : Vis X.env.scope x := by first | exact Or.inl rfl | exact Or.inr (Or.inl rfl) | exact Or.inr (Or.inr rfl)) (h0 : ss[i]? = some (.own (.lst l0)) := by rfl) (hv1 : noView (.v i) ts = true := by rfl)
    (hd : (x == ("__debug__" : Str)) = false := by decide) (hcd : (x == ("__classdict__" : Str)) = false := by decide)
    (hbase : attributeBase (.Name x px) "append" X.env (eval (.Name x px) X.env) = eval (.Name x px) X.env := by rfl)
    (hfew : ((backTo pos (starEach [e] X.env)).all (fun x => !x.1) && (backToKw pos (keywordEach [] X.env)).all (fun x => x.1.isSome)
      && decide ([e].length + ([] : List Keyword).length + (if ([] : List Keyword).isEmpty then 0 else 1) < 30)) = true := by rfl)
    (hline : (apos.endLine == pos.line) = true := by rfl) (hs : starEach [e] X.env = (false, eval e X.env) :: starEach [] X.env := by rfl) (hplain : (backTo pos (starEach [] X.env)).any (·.1) = false := by rfl) :
    EV X (.Call (.Attribute (.Name x px) "append" apos) [e] [] pos) ss ts Φ := ev_append hN hv h0 hv1 h hd hcd hbase hfew hline hs hplain
theorem eExt (i : Nat) {l0 : List D} (h : EV X e ss ts fun s r => ∃ l k, s[i]? = some (.own (.lst l)) ∧ r = .own (.lst k) ∧ l.length + k.length ≤ 1000000 ∧ Φ ((s.map (kill (.v i))).set i (.own (.lst (l ++ k)))) (.own .non))
    (hN : X.N[i]? = some x := by rfl) (hv : Vis X.env.scope x := by first | exact Or.inl rfl | exact Or.inr (Or.inl rfl) | exact Or.inr (Or.inr rfl)) (h0 : ss[i]? = some (.own (.lst l0)) := by rfl) (hv1 : noView (.v i) ts = true := by rfl)
    (hd : (x == ("__debug__" : Str)) = false := by decide) (hcd : (x == ("__classdict__" : Str)) = false := by decide)
    (hbase : attributeBase (.Name x px) "extend" X.env (eval (.Name x px) X.env) = eval (.Name x px) X.env := by rfl)
    (hfew : ((backTo pos (starEach [e] X.env)).all (fun x => !x.1) && (backToKw pos (keywordEach [] X.env)).all (fun x => x.1.isSome)
      && decide ([e].length + ([] : List Keyword).length + (if ([] : List Keyword).isEmpty then 0 else 1) < 30)) = true := by rfl)
    (hline : (apos.endLine == pos.line) = true := by rfl) (hs : starEach [e] X.env = (false, eval e X.env) :: starEach [] X.env := by rfl) (hplain : (backTo pos (starEach [] X.env)).any (·.1) = false := by rfl) :
    EV X (.Call (.Attribute (.Name x px) "extend" apos) [e] [] pos) ss ts Φ := ev_extend hN hv h0 hv1 h hd hcd hbase hfew hline hs hplain

/-! ### turns over lists -/
theorem els_get {α : Type} {l : List α} {f : α → El} {i : Nat} {el : El} (h : (l.map f)[i]? = some el) : ∃ x, l[i]? = some x ∧ el = f x := by
  rw [List.getElem?_map] at h
  obtain ⟨x, h1, h2⟩ := Option.map_eq_some_iff.mp h
  exact ⟨x, h1, h2.symm⟩
theorem els_get2 {α β : Type} {l : List α} {g : α → β} {f : β → El} {i : Nat} {el : El} (h : ((l.map g).map f)[i]? = some el) : ∃ x, l[i]? = some x ∧ el = f (g x) := by
  obtain ⟨y, h1, rfl⟩ := els_get h
  rw [List.getElem?_map] at h1
  obtain ⟨x, h2, rfl⟩ := Option.map_eq_some_iff.mp h1
  exact ⟨x, h2, rfl⟩
theorem els_range {n i : Nat} {f : Nat → El} {el : El} (h : ((List.range n).map f)[i]? = some el) : i < n ∧ el = f i := by
  obtain ⟨x, h1, rfl⟩ := els_get h
  obtain ⟨h2, h3⟩ := List.getElem?_eq_some_iff.mp h1
  simp at h2 h3
  subst h3
  exact ⟨h2, rfl⟩
theorem take_next {α : Type} {l : List α} {i : Nat} {x : α} (h : l[i]? = some x) : l.take (i + 1) = l.take i ++ [x] := by
  rw [List.take_add_one, h]
  rfl
theorem flat_map {α : Type} {l : List α} {f : α → D} (h : ∀ x, (f x).flat = true) : ∀ d ∈ l.map f, d.flat = true := fun d hd => by
  obtain ⟨x, _, rfl⟩ := List.mem_map.mp hd
  exact h x
theorem len_range {n : Nat} {f : Nat → El} : ((List.range n).map f).length = n := by simp
theorem pls_map {α : Type} {f : α → D} {n : Nat} : ∀ {l : List α}, (∀ x, x ∈ l → (f x).pl n = true) → D.pls n (l.map f) = true
  | [], _ => by rw [List.map_nil]; unfold D.pls; rfl
  | x :: l, h => by
    rw [List.map_cons]
    unfold D.pls
    rw [h x List.mem_cons_self, pls_map fun y hy => h y (List.mem_cons_of_mem _ hy)]
    rfl
theorem pl_int {n : Nat} {i : Int} : (D.int i).pl n = true := by unfold D.pl; rfl
theorem pl_str {n : Nat} {x : Str} (h : PyData.strOk x = true) : (D.str x).pl n = true := by unfold D.pl; exact h
theorem pl_lst {n : Nat} {l : List D} (h : D.pls n l = true) : (D.lst l).pl (n + 1) = true := by unfold D.pl; exact h
theorem pl_tup {n : Nat} {l : List D} (h : D.pls n l = true) : (D.tup l).pl (n + 1) = true := by unfold D.pl; exact h

/-! ### texts -/
theorem str_app_cps (x y : Str) : (x ++ y).cps.toList = x.cps.toList ++ y.cps.toList := by
  show (x.cps ++ y.cps).toList = _
  simp
theorem str_ext {x y : Str} (h : x.cps.toList = y.cps.toList) : x = y := by
  cases x; cases y
  congr 1
  exact Array.ext' h
theorem str_len {x : Str} : x.length = x.cps.toList.length := by
  show x.cps.size = _
  simp
theorem strOk_iff {x : Str} : PyData.strOk x = true ↔ ∀ c ∈ x.cps.toList, c < 0x110000 := by
  unfold PyData.strOk
  rw [← Array.all_toList, List.all_eq_true]
  exact ⟨fun h c hc => of_decide_eq_true (h c hc), fun h c hc => decide_eq_true (h c hc)⟩
end
end DL
/-! The data layer, part 9: calls with keywords and defaults. -/
namespace DL
open PySem PySem.Spec PyProof.Rows L2
section
variable {K : PySem.W.Frag} {x qual : Str} {params : Arguments} {body : List Stmt} {scope : Scope} {dvs : List V} {f : Addr} {fd : FuncData} {ps : List Str}
/-- how a call with n positional values and the keywords ks binds: g of the positional ones, the defaults, the keywords' -/
theorem kb_of (F : FunD K x qual params body scope dvs [] f fd) (n : Nat) (ks : List Str) (g : {α : Type} → List α → List α → List α → List α) (hd : dvs ≠ [])
    (hrel : ∀ {vs ds zs : List V} {us its ws : List Value}, Vals vs us → Vals ds its → Vals zs ws → Vals (g vs ds zs) (g us its ws))
    (h : ∀ (T : Addr) (kV doc pm : Value) (an : Option Addr) (cdv ct : Value) (us its ws : List Value), us.length = n → its.length = dvs.length → ws.length = ks.length →
      ∃ k, bindArgs (PySem.W.fnOf x qual params body scope (.ref T) kV doc pm an cdv ct) ⟨us, ks.zip ws⟩ = seqItems? (.ref T) >>= k ∧ k (some its.toArray) = pure (ps.zip (g us its ws))) :
    ∃ its : List Value, KBn K fd ps n ks (fun us ws => g us its ws) (fun vs zs => g vs dvs zs) := by
  obtain ⟨oc, od, dV, kV, doc, pm, an, cdv, ct, osl, rfl, lk, hcd, hD, hK⟩ := F.ex
  rcases hD with ⟨e, _⟩ | ⟨_, T, o, its, m, rfl, lT, oT, rT⟩
  · exact absurd e hd
  · refine ⟨its, fun s us ws X l1 l2 => ?_, fun r1 r2 => hrel r1 rT r2⟩
    obtain ⟨k, e1, e2⟩ := h T kV doc pm an cdv ct us its ws l1 rT.length.symm l2
    refine BindsTo.of_looks fun M => ?_
    rw [e1]
    exact looks_items X lT oT (.of_pure e2)
/-- .. of a def without defaults -/
theorem kb_ofN (F : FunD K x qual params body scope [] [] f fd) (n : Nat) (ks : List Str) (g : {α : Type} → List α → List α → List α → List α)
    (hrel : ∀ {vs ds zs : List V} {us its ws : List Value}, Vals vs us → Vals ds its → Vals zs ws → Vals (g vs ds zs) (g us its ws))
    (h : ∀ (kV doc pm : Value) (an : Option Addr) (cdv ct : Value) (us ws : List Value), us.length = n → ws.length = ks.length →
      bindArgs (PySem.W.fnOf x qual params body scope .none kV doc pm an cdv ct) ⟨us, ks.zip ws⟩ = pure (ps.zip (g us [] ws))) :
    ∃ its : List Value, KBn K fd ps n ks (fun us ws => g us its ws) (fun vs zs => g vs [] zs) := by
  obtain ⟨oc, od, dV, kV, doc, pm, an, cdv, ct, osl, rfl, lk, hcd, hD, hK⟩ := F.ex
  rcases hD with ⟨_, rfl⟩ | ⟨e, _⟩
  · exact ⟨[], fun s us ws X l1 l2 => .of_eq (h kV doc pm an cdv ct us ws l1 l2), fun r1 r2 => hrel r1 .nil r2⟩
  · exact absurd rfl e
/-- positional calls of a def with defaults: the first j parameters are given -/
theorem b_of (F : FunD K x qual params body scope dvs [] f fd) (n j : Nat) (hd : dvs ≠ []) (hn : n + (dvs.length - j) = ps.length)
    (h : ∀ (T : Addr) (kV doc pm : Value) (an : Option Addr) (cdv ct : Value) (us its : List Value), us.length = n → its.length = dvs.length →
      ∃ k, bindArgs (PySem.W.fnOf x qual params body scope (.ref T) kV doc pm an cdv ct) ⟨us, []⟩ = seqItems? (.ref T) >>= k ∧ k (some its.toArray) = pure (ps.zip (us ++ its.drop j))) : ∃ ds, Vals (dvs.drop j) ds ∧ Binds K fd ps ds := FunD.binds1 F n j hd hn h
end
section
variable {X : Cx} {fx : List Nat} {ss ts : List Slot} {Φ : List Slot → Slot → Prop} {e : Expr} {es : List Expr} {pos p kpos : Pos} {kws : List Keyword} {Ω : List Slot → List Slot → Prop} {nm : Option Str}
/-- the values of keywords -/
def KV (X : Cx) (kws : List Keyword) (ss ts : List Slot) (Φ : List Slot → List Slot → Prop) : Prop :=
  ∀ m B σ tv H Q, Low m ts.length → Held X.K m B H σ ss tv ts → (∀ ss' rs vs H', Φ ss' rs → vs.length = rs.length → rs.length = kws.length → Held X.K m B H' σ ss' (vs.reverse ++ tv) (rs.reverse ++ ts) → Q vs H') → ∃ t, PK X kws t ∧ t σ H Q
def wK (X : Cx) (kws : List Keyword) : TA := fun σ H Q => ∃ t, PK X kws t ∧ t σ H Q
theorem pk_w : PK X kws (wK X kws) := ⟨fun pos pins s σ H Q I ⟨t, p, q⟩ => p.run pos pins s σ H Q I q⟩
theorem kv_nil (q : Ω ss []) : KV X [] ss ts Ω := fun m B σ tv H Q hm hh k => ⟨_, pk_nil, k ss [] [] H q rfl rfl hh⟩
theorem kv_cons (h : EV X e ss ts fun s r => KV X kws s (r :: ts) fun s' rs => Ω s' (r :: rs)) : KV X (⟨nm, e, kpos⟩ :: kws) ss ts Ω := fun m B σ tv H Q hm hh k => by
  refine ⟨_, pk_cons pe_w pk_w, ?_⟩
  refine h m B σ tv H _ hm hh fun s r x H1 h1 hh1 => ?_
  refine h1 m B σ (x :: tv) H1 _ hm.up hh1 fun s' rs vs H2 q l1 l2 hh2 => ?_
  refine k s' (r :: rs) (x :: vs) H2 q (by simp [l1]) (by simp [l2]) ?_
  rw [List.reverse_cons, List.reverse_cons, List.append_assoc, List.append_assoc]
  exact hh2
variable {CX : CXT} {k n : Nat} {f : Addr} {fd : FuncData} {ps ks : List Str} {x : Str} {EX : XK} {F : List D → (D → Prop) → Prop} {g : List Value → List Value → List Value} {gV : List V → List V → List V} {sp : Sp} {t tk : TA}
/-- f(k = v, ..), keywords alone -/
theorem pe_callN0 (F : FnOk X.prog X.w X.K X.mg X.base CX k f fd ps sp) (hr : Room k X.A) (hg : Gl X x) (hm : X.mg x = some (.ref f)) (hk : PySem.W.keepIn X.K (.ref f) = true) (hb : KBn X.K fd ps 0 ks g gV) (hx : Passes CX X EX)
    (hkw : PK X kws tk) (hall : (backToKw pos (keywordEach kws X.env)).all (·.1.isSome) = true := by rfl) (hks : (backToKw pos (keywordEach kws X.env)).filterMap (·.1) = ks := by rfl)
    (hdb : (x == ("__debug__" : Str)) = false := by decide)
    (hpl : ((backTo pos (starEach [] X.env)).any (·.1) || (backToKw pos (keywordEach kws X.env)).any (·.1.isNone)) = false := by rfl) :
    PE X (.Call (.Name x p) [] kws pos) (fun σ H Q => tk σ H fun zs H2 => zs.length = ks.length ∧ sp (gV [] zs) H2 Q EX) := by
  refine ⟨fun pins s σ H Q I h => ?_⟩
  refine wpAny_Call_Name_kw (ld_glob I hg hm ?_ hdb)
  refine PySem.W.callWith_KW0 (h₀ := X.base) I.ok.mod.kin hk hall (thn (hkw.run pos pins s σ H _ I h) fun ws s2 ⟨zs, H2, I2, rz, l2, q2⟩ => ⟨I2.kIn, ?_⟩) hpl
  rw [hks]
  exact run_fnN (us := []) (vs := []) F hr hb hx I2 .nil rz rfl l2 q2
theorem ev_callK0 (G : FnOk X.prog X.w X.K X.mg X.base CX k f fd ps (spP X.K F)) (hr : Room k X.A) (hg : Gl X x) (hm : X.mg x = some (.ref f)) (hk : PySem.W.keepIn X.K (.ref f) = true) (hb : KBn X.K fd ps 0 ks g gV) (hx : Passes CX X EX) (gD : List D → List D)
    (hrel : ∀ H (zs : List V) (es : List D), RepRs X.K H es zs → es.length = ks.length → RepRs X.K H (gD es) (gV [] zs))
    (h : KV X kws ss ts fun s rs => ∃ ds, isAll rs ds ∧ ds.length = ks.length ∧ F (gD ds) fun d => Φ s (.own d))
    (hall : (backToKw pos (keywordEach kws X.env)).all (·.1.isSome) = true := by rfl) (hks : (backToKw pos (keywordEach kws X.env)).filterMap (·.1) = ks := by rfl)
    (hdb : (x == ("__debug__" : Str)) = false := by decide)
    (hpl : ((backTo pos (starEach [] X.env)).any (·.1) || (backToKw pos (keywordEach kws X.env)).any (·.1.isNone)) = false := by rfl) : EV X (.Call (.Name x p) [] kws pos) ss ts Φ := fun m B σ tv H Q hm' hh kk => by
  refine toE (pe_callN0 G hr hg hm hk hb hx pk_w hall hks hdb hpl) ?_
  refine h m B σ tv H _ hm' hh fun s rs vs H1 ⟨ds, ia, hl, hF⟩ l1 l2 hh1 => ?_
  refine ⟨by rw [l1, ia.len, hl], ?_⟩
  have hpop := hh1.popA l1 hm'
  refine spP_use (hrel H1 vs ds (hh1.argsOf l1 ia hm') hl) hF fun d v H2 q n => ?_
  exact kk s _ v H2 q (hpop.new n)
/-- f(e, .., k = v, ..) -/
theorem ev_callK (G : FnOk X.prog X.w X.K X.mg X.base CX k f fd ps (spP X.K F)) (hr : Room k X.A) (hg : Gl X x) (hm : X.mg x = some (.ref f)) (hk : PySem.W.keepIn X.K (.ref f) = true) (hb : KBn X.K fd ps n ks g gV) (hx : Passes CX X EX) (gD : List D → List D → List D)
    (hrel : ∀ H (vs zs : List V) (ds es : List D), RepRs X.K H ds vs → RepRs X.K H es zs → ds.length = n → es.length = ks.length → RepRs X.K H (gD ds es) (gV vs zs))
    (h : AV X (e :: es) ss ts fun s1 rs1 => KV X kws s1 (rs1.reverse ++ ts) fun s rs => ∃ ds zs, isAll rs1 ds ∧ isAll rs zs ∧ ds.length = n ∧ zs.length = ks.length ∧ F (gD ds zs) fun d => Φ s (.own d))
    (hall : (backToKw pos (keywordEach kws X.env)).all (·.1.isSome) = true := by rfl) (hks : (backToKw pos (keywordEach kws X.env)).filterMap (·.1) = ks := by rfl)
    (hdb : (x == ("__debug__" : Str)) = false := by decide) (he : starEach (e :: es) X.env = (false, eval e X.env) :: starEach es X.env := by rfl)
    (hpl : ((backTo pos (starEach (e :: es) X.env)).any (·.1) || (backToKw pos (keywordEach kws X.env)).any (·.1.isNone)) = false := by rfl) : EV X (.Call (.Name x p) (e :: es) kws pos) ss ts Φ := fun m B σ tv H Q hm' hh kk => by
  refine toE (pe_callN G hr hg hm hk hb hx pa_w pk_w hall hks hdb he hpl) ?_
  refine h m B σ tv H _ hm' hh fun s1 rs1 vs1 H1 h1 l1 l2 hh1 => ?_
  refine h1 m B σ _ H1 _ (hm'.app _) hh1 fun s rs vs H2 ⟨ds, zs, ia, ib, n1, n2, hF⟩ l3 l4 hh2 => ?_
  have hpop := hh2.popA l3 (hm'.app _)
  refine ⟨by rw [l1, ia.len, n1], by rw [l3, ib.len, n2], ?_⟩
  refine spP_use (hrel H2 vs1 vs ds zs (hpop.argsOf l1 ia hm') (hh2.argsOf l3 ib (hm'.app _)) n1 n2) hF fun d v H3 q nn => ?_
  exact kk s _ v H3 q ((hpop.popA l1 hm').new nn)
end
end DL
/-! The data layer, part 10: isinstance, names of built-in types. -/
namespace DL
open PySem PySem.Spec PyProof.Rows L2
def D.tyN : D → Option String
  | .non => some "NoneType"
  | .bl _ => some "bool"
  | .int _ => some "int"
  | .str _ => some "str"
  | .tup _ => some "tuple"
  | .lst _ => some "list"
  | _ => none
theorem D.tyX {K : PySem.W.Frag} {H : Hp} {d : D} {v : V} {n : String} (h : RepR K H d v) (e : d.tyN = some n) : TyX K H v (.type n) := by
  cases d with
  | non => unfold RepR at h; cases e; subst h; exact .base .non
  | bl _ => unfold RepR at h; cases e; subst h; exact .base (.bl _)
  | int _ => unfold RepR at h; cases e; subst h; exact .base (.int _)
  | str _ => unfold RepR at h; cases e; subst h; exact .base (.str _)
  | tup l =>
    unfold RepR at h
    cases e
    obtain ⟨a, vs, rfl, h1, _⟩ := h
    rcases h1 with (h1 | ⟨o, h1⟩) | ⟨o, its, n, h1, h2, _⟩
    · exact .base (.tup h1)
    · exact .fTuple h1
    · exact .kTuple h1 h2
  | lst l =>
    unfold RepR at h
    cases e
    obtain ⟨a, vs, rfl, h1, _⟩ := h
    exact .base (.lst h1)
  | _ => cases e
section
variable {X : Cx} {fx : List Nat} {ss ts : List Slot} {Φ : List Slot → Slot → Prop} {e c : Expr} {pos p px : Pos} {x : Str}
/-- the name of a built-in type -/
theorem ev_ty {n : String} (hg : Gl X x) (hm : X.mg x = none) (hv : bootBuiltins x = some (.type n)) (q : Φ ss (.own (.raw (.ty n)))) (hn : x ≠ "__name__" := by decide) (hd : (x == ("__debug__" : Str)) = false := by decide) : EV X (.Name x pos) ss ts Φ :=
  ev_const (pe_bltn (v := .ty n) hg hm hv rfl hn hd) (fun H => by unfold RepO; exact ⟨rfl, rfl⟩) q
/-- isinstance(e, T) -/
theorem ev_isi (hg : Gl X "isinstance") (hm : X.mg "isinstance" = none) (h : EV X e ss ts fun s1 r1 => EV X c s1 (r1 :: ts) fun s r => ∃ d n t b, r1.is d ∧ d.tyN = some n ∧ r.is (.raw (.ty t)) ∧ PySem.W.kitOne X.K (.type n) (.type t) = some b ∧ Φ s (.own (.bl b)))
    (hs : starEach [e, c] X.env = (false, eval e X.env) :: starEach [c] X.env := by rfl) (hs2 : starEach [c] X.env = (false, eval c X.env) :: starEach [] X.env := by rfl) (hpl : (backTo pos (starEach [c] X.env)).any (·.1) = false := by rfl) : EV X (.Call (.Name "isinstance" p) [e, c] [] pos) ss ts Φ :=
  ev_callB call_isi hg hm (by decide +kernel) (av_cons (h.imp fun s1 r1 h1 => av_cons (h1.imp fun s r ⟨d, n, t, b, e1, e2, e3, e4, q⟩ => av_nil ⟨[d, .raw (.ty t)], fun d => d = .bl b, ⟨e1, e3, trivial⟩, fun H vs Q rr k => by
    obtain ⟨v, w, rfl, hv, hw⟩ := reps2 rr
    rw [rep_raw] at hw
    subst hw
    exact ⟨v, .ty t, .type n, .type t, b, rfl, .ty t, D.tyX hv e2, e4, k _ _ H rfl (.flat o_bl)⟩, fun d hd => by rw [hd]; exact q⟩) hs2) hs) (he := hs) (hpl := hpl)
end
end DL
namespace DL
open PySem PySem.Spec PyProof.Rows L2
/-- a def as callers see it: its promise, its name, how it binds; dds: the defaults that fill up -/
structure DefAt (P : Program) (w : World) (K : PySem.W.Frag) (mg : Str → Option Value) (base : Heap) (CX : CXT) (k : Nat) (x : Str) (ps : List Str) (f : Addr) (fd : FuncData) (dds : List D) (F : List D → (D → Prop) → Prop) : Prop where
  ok : FnOk P w K mg base CX k f fd ps (spP K F)
  nm : mg x = some (.ref f)
  kp : PySem.W.keepIn K (.ref f) = true
  bd : ∃ (dvs : List V) (dfl : List Value), Binds K fd ps dfl ∧ Vals dvs dfl ∧ ∀ H, RepRs K H dds dvs
section
variable {X : Cx} {fx : List Nat} {ss ts : List Slot} {Φ : List Slot → Slot → Prop} {e : Expr} {es : List Expr} {pos p : Pos} {x : Str} {k j : Nat} {ps : List Str} {f : Addr} {fd : FuncData} {dds : List D} {F : List D → (D → Prop) → Prop}
theorem eCall (C : DefAt X.prog X.w X.K X.mg X.base CX0 k x ps f fd dds F) (hr : Room j X.A) (hj : k ≤ j) (h : AV X (e :: es) ss ts fun s rs => ∃ ds, isAll rs ds ∧ F (ds ++ dds) fun d => Φ s (.own d)) (hg : Gl X x := by rfl)
    (hdb : (x == ("__debug__" : Str)) = false := by decide) (he : starEach (e :: es) X.env = (false, eval e X.env) :: starEach es X.env := by rfl) (hpl : (backTo pos (starEach es X.env)).any (·.1) = false := by rfl) : EV X (.Call (.Name x p) (e :: es) [] pos) ss ts Φ := by
  obtain ⟨dvs, dfl, b1, b2, b3⟩ := C.bd
  exact ev_call C.ok (hr.mono hj) hg C.nm C.kp b1 b2 b3 pass0 h hdb he hpl
end
theorem reps_nil {K : PySem.W.Frag} {H : Hp} : RepRs K H [] [] := by unfold RepRs; rfl
theorem reps_cons {K : PySem.W.Frag} {H : Hp} {d : D} {ds : List D} {v : V} {vs : List V} (h : RepR K H d v) (r : RepRs K H ds vs) : RepRs K H (d :: ds) (v :: vs) := by unfold RepRs; exact ⟨v, vs, rfl, h, r⟩
theorem r_int {K : PySem.W.Frag} {H : Hp} {i : Int} : RepR K H (.int i) (.int i) := rep_int.mpr rfl
theorem r_non {K : PySem.W.Frag} {H : Hp} : RepR K H .non .non := rep_non.mpr rfl
theorem r_bl {K : PySem.W.Frag} {H : Hp} {b : Bool} : RepR K H (.bl b) (.bl b) := rep_bl.mpr rfl
end DL
/-! The data layer, part 11: a def that changes its first argument. -/
namespace DL
open PySem PySem.Spec PyProof.Rows L2
/-- the first argument is changed: d0 before -/
def fI (F : D → List D → (D → D → Prop) → Prop) : FSp := fun ss q => ∃ (d0 : D) (ds : List D) (k : D → D → Prop), ss = .own d0 :: ds.map Slot.par ∧ F d0 ds k ∧ ∀ d' d, k d' d → q (.own d' :: ds.map Slot.par) d
abbrev spI (K : PySem.W.Frag) (F : D → List D → (D → D → Prop) → Prop) : Sp := spG K (fI F)
section
variable {P : Program} {w : World} {K : PySem.W.Frag} {mg : Str → Option Value} {base : Heap}
theorem fun_okI {CX : CXT} {x qual : Str} {st : Stmt} {dvs : List V} {f : Addr} {fd : FuncData} {N ps : List Str} {k : Nat} {F : D → List D → (D → D → Prop) → Prop} (Fn : FunD K x qual (defArgs st) (defBody st) (defScope st) dvs [] f fd) (S : FnScope N ps (defScope st))
    (len : ∀ d0 ds q, F d0 ds q → ds.length + 1 = ps.length)
    (hbody : ∀ (cdv : Value) (A : Around) (outer : List Env) (s : Shared) (H : Hp) (E : XK), Room k (A.deeper (envOfC qual (defScope st) s.heap.objs.size f cdv)) → ∀ d0 ds (q : D → D → Prop), F d0 ds q →
      SV (cxOf CX P w K mg base N qual (defScope st) f cdv A outer s H E).nox [0] (defBody st) (.own d0 :: (ds.map Slot.par ++ List.replicate (N.length - ps.length) .no)) []
        { nx := fun s => ∃ d', s[0]? = some (.own d') ∧ q d' .non, rt := fun s r => ∃ d' d, s[0]? = some (.own d') ∧ r = .own d ∧ q d' d }) :
    FnOk P w K mg base CX (k + 1) f fd ps (spI K F) := by
  refine fun_ok [0] Fn S (fun ss q ⟨d0, ds, k, e, h, _⟩ => ?_) fun cdv A outer s H E hr ss q ⟨d0, ds, k, e, h, kq⟩ => ?_
  · rw [e]
    simpa using len d0 ds _ h
  · subst e
    have l := len d0 ds _ h
    have hpar : ∀ i, i < ps.length → i ∉ ([0] : List Nat) → ∃ d, (Slot.own d0 :: ds.map Slot.par)[i]? = some (.par d) := fun i hi n => by
      cases i with
      | zero => exact absurd List.mem_cons_self n
      | succ i => exact ⟨ds[i]'(by omega), by simp [show i < ds.length by omega]⟩
    have same : ∀ (s : List Slot) d', s[0]? = some (.own d') → ((Slot.own d0 :: ds.map Slot.par).zipIdx.map fun p => if p.2 ∈ ([0] : List Nat) then (s[p.2]?).getD .no else p.1) = .own d' :: ds.map Slot.par := fun s d' e => by
      refine List.ext_getElem? fun i => ?_
      rw [List.getElem?_map, List.getElem?_zipIdx]
      cases i with
      | zero =>
        show some (if 0 + 0 ∈ ([0] : List Nat) then (s[0 + 0]?).getD .no else _) = _
        rw [if_pos (by exact List.mem_cons_self), e]
        rfl
      | succ i =>
        rw [List.getElem?_cons_succ, List.getElem?_cons_succ]
        cases (ds.map Slot.par)[i]? with
        | none => rfl
        | some z =>
          show some (if 0 + (i + 1) ∈ ([0] : List Nat) then _ else z) = some z
          rw [if_neg (by simp)]
    intro B σ tv H0 D hh kk
    refine hbody cdv A outer s H E hr d0 ds _ h B σ tv H0 D hh ⟨fun s2 σ2 H2 ⟨d', e, q2⟩ h2 z => kk.nx s2 σ2 H2 ⟨hpar, by rw [same _ _ e]; exact kq _ _ q2⟩ h2 z, fun s2 r σ2 v H2 ⟨d', d, e, er, q2⟩ h2 z => kk.rt s2 r σ2 v H2 ⟨hpar, d, er, by rw [same _ _ e]; exact kq _ _ q2⟩ h2 z, fun _ _ _ z => z.elim, fun _ _ _ z => z.elim⟩
end
/-- the slot is of d, and no view of o; a variable's own datum is not asked -/
def Slot.isN (o : Own) (s : Slot) (d : D) : Prop := s = .own d ∨ s = .par d ∨ ∃ o', o' ≠ o ∧ s = .view o' d
theorem Slot.isN_own {o : Own} {d : D} : Slot.isN o (.own d) d := .inl rfl
theorem Slot.isN_par {o : Own} {d : D} : Slot.isN o (.par d) d := .inr (.inl rfl)
theorem Slot.isN_view {o o' : Own} {d : D} (n : o' ≠ o) : Slot.isN o (.view o' d) d := .inr (.inr ⟨o', n, rfl⟩)
def isNs (o : Own) : List Slot → List D → Prop
  | [], [] => True
  | r :: rs, d :: ds => r.isN o d ∧ isNs o rs ds
  | _, _ => False
theorem isNs.app {o : Own} : ∀ {as : List Slot} {bs : List Slot} {cs ds : List D}, isNs o as cs → isNs o bs ds → isNs o (as ++ bs) (cs ++ ds)
  | [], _, [], _, _, k => k
  | _ :: _, _, _ :: _, _, h, k => ⟨h.1, isNs.app h.2 k⟩
  | [], _, _ :: _, _, h, _ => h.elim
  | _ :: _, _, [], _, h, _ => h.elim
theorem isNs.rev {o : Own} : ∀ {rs : List Slot} {ds : List D}, isNs o rs ds → isNs o rs.reverse ds.reverse
  | [], [], _ => trivial
  | r :: rs, d :: ds, h => by
    rw [List.reverse_cons, List.reverse_cons]
    exact (isNs.rev h.2).app ⟨h.1, trivial⟩
  | [], _ :: _, h => h.elim
  | _ :: _, [], h => h.elim
open Classical in
/-- H without F -/
noncomputable def hless (H : Hp) (F : List Addr) : Hp := fun a => if a ∈ F then none else H a
theorem hless_ex {H : Hp} {F : List Addr} : Ex (hless H F) H := fun a o h => by
  unfold hless at h
  split at h
  · cases h
  · exact h
theorem hless_at {H : Hp} {F : List Addr} {a : Addr} (h : a ∉ F) : hless H F a = H a := if_neg h
theorem hless_in {H : Hp} {F : List Addr} {a : Addr} (h : a ∈ F) : hless H F a = none := if_pos h
section
variable {K : PySem.W.Frag} {m : Nat → Prop} {B H H' : Hp} {σ : List (Option V)} {tv vs : List V} {v : V} {fp : Own → List Addr} {d : D} {l : List D} {i : Nat} {ss ts rs : List Slot} {r : Slot} {ds : List D}
theorem HeldF.topN (h : HeldF K m B H fp σ ss (v :: tv) (r :: ts)) (e : r.isN (.v i) d) : RepR K (hless H (fp (.v i))) d v := by
  have tk : TK H (hless H (fp (.v i))) := fun a o q s => by
    rw [hless_at]
    · exact q
    · intro z
      obtain ⟨u, e1, n⟩ := h.dom _ a z
      rw [q] at e1
      cases e1
      exact n s
  have ht : (v :: tv).reverse[ts.length]? = some v := by
    have := h.tlen
    rw [← show tv.length = ts.length by simpa using this]
    exact rev_top
  have z := h.tmp ts.length r rev_top
  rw [ht] at z
  rcases e with rfl | rfl | ⟨o', n, rfl⟩
  · obtain ⟨w, e1, e2⟩ := z
    cases e1
    refine (e2.frame tk fun a ha => hless_at fun z => ?_).rep
    have := h.disj _ _ a ha z
    cases this
  · obtain ⟨w, e1, e2⟩ := z
    cases e1
    refine e2.mono fun a o q => ?_
    rw [hless_at]
    · exact h.base a o q
    · intro z
      rw [h.out _ a z] at q
      cases q
  · obtain ⟨_, w, e1, e2⟩ := z
    cases e1
    refine e2.mono fun a o q => ?_
    unfold restr at q
    split at q
    · rename_i c
      rw [hless_at]
      · exact q
      · intro z
        rcases c with (c | c) | ⟨u, c1, c2⟩
        · exact n (h.disj _ _ a c z)
        · rw [h.out _ a z] at c
          cases c
        · obtain ⟨u', e1, n'⟩ := h.dom _ a z
          rw [c1] at e1
          cases e1
          exact n' c2
    · cases q
theorem HeldF.repsN : ∀ {rs : List Slot} {vs : List V} {ds : List D} {fp : Own → List Addr}, vs.length = rs.length → HeldF K m B H fp σ ss (vs ++ tv) (rs ++ ts) → isNs (.v i) rs ds → Low m ts.length → RepRs K (hless H (fp (.v i))) ds vs
  | [], [], [], _, _, _, _, _ => by unfold RepRs; rfl
  | r :: rs, v :: vs, d :: ds, fp, e, h, q, hm => by
    unfold RepRs
    refine ⟨v, vs, rfl, HeldF.topN h q.1, ?_⟩
    exact HeldF.repsN (rs := rs) (vs := vs) (ds := ds) (by simpa using e) (HeldF.pop h (hm.app _)) q.2 hm
  | [], _ :: _, _, _, e, _, _, _ => nomatch e
  | _ :: _, [], _, _, e, _, _, _ => nomatch e
  | _ :: _, _ :: _, [], _, _, _, q, _ => q.elim
  | [], [], _ :: _, _, _, _, q, _ => q.elim
/-- a call that changes what slot i owns: the callee's side -/
theorem HeldF.lend (h : HeldF K m B H fp σ ss tv ts) {x : V} {d0 : D} (hx : σ[i]? = some (some x)) (hs : ss[i]? = some (.own d0)) (r : RepRs K (hless H (fp (.v i))) ds vs) :
    Held K (fun k => k < 0) (hless H (fp (.v i))) H ((x :: vs).map some) (.own d0 :: ds.map Slot.par) [] [] := by
  refine ⟨fun o => if o = .v 0 then fp (.v i) else [], hless_ex, by simp [r.length], rfl, Low.self, fun j s e => ?_, (fun k s e => by simp at e), fun o o' a q1 q2 => ?_, fun o => ?_, fun o a q => ?_, fun o a q => ?_⟩
  · cases j with
    | zero =>
      cases e
      obtain ⟨w, e1, e2⟩ := h.var i _ hs
      rw [hx] at e1
      have e3 : x = w := Option.some.inj e1
      subst e3
      refine ⟨x, rfl, ?_⟩
      show RepO K H d0 x (if Own.v 0 = Own.v 0 then fp (.v i) else [])
      rw [if_pos rfl]
      exact e2
    | succ j =>
      rw [List.getElem?_cons_succ, List.getElem?_map] at e
      cases e1 : ds[j]? with
      | none => rw [e1] at e; cases e
      | some d =>
        rw [e1] at e
        have e2 : Slot.par d = s := Option.some.inj e
        subst e2
        obtain ⟨w, e3, e4⟩ := r.get e1
        refine ⟨w, ?_, e4⟩
        rw [List.map_cons, List.getElem?_cons_succ, List.getElem?_map, e3]
        rfl
  · revert q1 q2
    show a ∈ (if o = Own.v 0 then fp (.v i) else []) → a ∈ (if o' = Own.v 0 then fp (.v i) else []) → o = o'
    by_cases h1 : o = .v 0
    · by_cases h2 : o' = .v 0
      · intro _ _; rw [h1, h2]
      · rw [if_neg h2]; exact fun _ z => nomatch z
    · rw [if_neg h1]; exact fun z => nomatch z
  · show (if o = Own.v 0 then fp (.v i) else []).Nodup
    split
    · exact h.nod _
    · exact List.nodup_nil
  · revert q
    show a ∈ (if o = Own.v 0 then fp (.v i) else []) → _
    split
    · exact hless_in
    · exact fun z => nomatch z
  · revert q
    show a ∈ (if o = Own.v 0 then fp (.v i) else []) → _
    split
    · exact h.dom _ a
    · exact fun z => nomatch z
/-- .. and back -/
theorem HeldF.lent (h : HeldF K m B H fp σ ss tv ts) {x : V} {d0 d' : D} (hx : σ[i]? = some (some x)) (hs : ss[i]? = some (.own d0)) (ht : noView (.v i) ts = true)
    (g : Held K (fun k => k < 0) (hless H (fp (.v i))) H' ((x :: vs).map some) (.own d' :: rs) [v] [.own d]) : Held K m B H' σ ((ss.map (kill (.v i))).set i (.own d')) (v :: tv) (.own d :: ts) := by
  obtain ⟨fc, g⟩ := g
  have nd : ∀ o a, a ∈ fp o → o ≠ .v i → a ∉ fp (.v i) := fun o a q n z => n (h.disj _ _ a q z)
  have old : ∀ a o, a ∉ fp (.v i) → H a = some o → H' a = some o := fun a o n e => g.base a o (by rw [hless_at n]; exact e)
  have fr : ∀ o a, a ∈ fc o → a ∈ fp (.v i) ∨ ((∀ o, a ∉ fp o) ∧ B a = none) := fun o a q => by
    by_cases z : a ∈ fp (.v i)
    · exact .inl z
    · have e := g.out o a q
      rw [hless_at z] at e
      refine .inr ⟨fun o' q' => ?_, ?_⟩
      · obtain ⟨u, e1, _⟩ := h.dom o' a q'
        rw [e] at e1
        cases e1
      · cases eB : B a with
        | none => rfl
        | some u =>
          have := h.base a u eB
          rw [e] at this
          cases this
  have tk : TK H H' := fun a o e s => old a o (fun z => by
    obtain ⟨u, e1, n⟩ := h.dom _ a z
    rw [e] at e1
    cases e1
    exact n s) e
  obtain ⟨w, e1, r1⟩ := g.var 0 _ rfl
  have e2 : x = w := Option.some.inj e1
  subst e2
  obtain ⟨w, e3, r2⟩ := g.tmp 0 _ rfl
  have e4 : v = w := Option.some.inj e3
  subst e4
  have hi : i < ss.length := (List.getElem?_eq_some_iff.mp hs).1
  have h1 := h.change (d' := d') (F' := fc (.v 0)) (by rw [hx]; rfl) hi tk old r1 (g.nod _) (fr _) ht
  refine ⟨_, h1.push r2 (g.nod _) (fun a ha o _ => ?_) fun a ha => ?_⟩
  · by_cases h2 : o = .v i
    · subst h2
      rw [fupd_same]
      intro z
      have := g.disj _ _ a ha z
      cases this
    · rw [fupd_ne h2]
      intro z
      rcases fr _ a ha with q | q
      · exact h2 (h.disj _ _ a z q)
      · exact q.1 o z
  · rcases fr _ a ha with q | q
    · exact h.out _ a q
    · exact q.2
end
section
variable {X : Cx} {fx : List Nat} {ss ts : List Slot} {Φ : List Slot → Slot → Prop} {e : Expr} {es : List Expr} {pos p : Pos} {x : Str}
variable {CX : CXT} {k : Nat} {f : Addr} {fd : FuncData} {ps : List Str} {EX : XK} {F : D → List D → (D → D → Prop) → Prop}
theorem ev_callI {dvs : List V} {dfl : List Value} {dds : List D} (i : Nat) {y : Str} {py : Pos} {d00 : D} (G : FnOk X.prog X.w X.K X.mg X.base CX k f fd ps (spI X.K F)) (hr : Room k X.A) (hg : Gl X x) (hm : X.mg x = some (.ref f)) (hk : PySem.W.keepIn X.K (.ref f) = true) (hb : Binds X.K fd ps dfl) (hd : Vals dvs dfl) (hdd : ∀ H, RepRs X.K H dds dvs) (hx : Passes CX X EX)
    (h : AV X es ss ts fun s rs => ∃ d0 ds, s[i]? = some (.own d0) ∧ noView (.v i) ts = true ∧ isNs (.v i) rs ds ∧ F d0 (ds ++ dds) fun d' d => Φ ((s.map (kill (.v i))).set i (.own d')) (.own d))
    (h0 : ss[i]? = some (.own d00) := by rfl) (hN : X.N[i]? = some y := by rfl) (hv : Vis X.env.scope y := by first | exact Or.inl rfl | exact Or.inr (Or.inl rfl) | exact Or.inr (Or.inr rfl)) (hd0 : (y == ("__debug__" : Str)) = false := by decide) (hcd : (y == ("__classdict__" : Str)) = false := by decide)
    (hdb : (x == ("__debug__" : Str)) = false := by decide) (he : starEach (.Name y py :: es) X.env = (false, eval (.Name y py) X.env) :: starEach es X.env := by rfl) (hpl : (backTo pos (starEach es X.env)).any (·.1) = false := by rfl) : EV X (.Call (.Name x p) (.Name y py :: es) [] pos) ss ts Φ := fun m B σ tv H Q hm' hh kk => by
  refine toE (pe_call G hr hg hm hk hb hd hx (pa_cons (pe_var hN hv hd0 hcd) pa_w he) hdb he hpl) ?_
  obtain ⟨fp, hf⟩ := id hh
  obtain ⟨x0, e1, _⟩ := hf.var i _ h0
  have ex : σ[i]? = some (some x0) := by
    cases e : σ[i]? with
    | none => rw [e] at e1; cases e1
    | some y => rw [e] at e1; have z : y = some x0 := e1; rw [z]
  refine ⟨x0, ex, ?_⟩
  refine h m B σ tv H _ hm' hh fun s rs vs H1 ⟨d0, ds, hs, hv1, ia, hF⟩ l1 l2 ⟨fp1, h1⟩ => ?_
  have r1 := (HeldF.repsN (by simpa using l1) h1 ia.rev hm').rev
  rw [List.reverse_reverse, List.reverse_reverse] at r1
  have l3 : vs.reverse.length = rs.reverse.length := by simpa using l1
  have hpop := HeldF.popN l3 h1 hm'
  obtain ⟨fp3, h3, e3⟩ : ∃ fp3, HeldF X.K m B H1 fp3 σ s tv ts ∧ fp3 (.v i) = fp1 (.v i) := ⟨_, hpop, rfl⟩
  refine ⟨_, _, HeldF.lend h3 ex hs (ds := ds ++ dds) (by rw [e3]; exact r1.append (hdd _)), d0, ds ++ dds, _, rfl, hF, fun d' d q r H' g => ?_⟩
  refine kk _ (.own d) r H' q ?_
  exact HeldF.lent h3 ex hs hv1 g
end
end DL
/-! The data layer, part 12: calls that change, targets, stores, constants, more built-ins. -/
namespace DL
open PySem PySem.Spec PyProof.Rows L2
/-- a def that changes its first argument, as callers see it -/
structure DefI (P : Program) (w : World) (K : PySem.W.Frag) (mg : Str → Option Value) (base : Heap) (CX : CXT) (k : Nat) (x : Str) (ps : List Str) (f : Addr) (fd : FuncData) (dds : List D) (F : D → List D → (D → D → Prop) → Prop) : Prop where
  ok : FnOk P w K mg base CX k f fd ps (spI K F)
  nm : mg x = some (.ref f)
  kp : PySem.W.keepIn K (.ref f) = true
  bd : ∃ (dvs : List V) (dfl : List Value), Binds K fd ps dfl ∧ Vals dvs dfl ∧ ∀ H, RepRs K H dds dvs
section
variable {X : Cx} {fx : List Nat} {ss ts rs : List Slot} {Φ : List Slot → Slot → Prop} {e a b c tg it o : Expr} {es : List Expr} {pos p p2 apos px py : Pos} {x y : Str} {k j : Nat} {ps : List Str} {f : Addr} {fd : FuncData} {dds : List D} {E : DE} {Θ : List Slot → Bool → Prop} {d : D} {N : List Slot → Prop}
/-- f(x, ..), x in slot i changed -/
theorem eCallI {FI : D → List D → (D → D → Prop) → Prop} (C : DefI X.prog X.w X.K X.mg X.base CX0 k x ps f fd dds FI) (i : Nat) {d00 : D} (hr : Room j X.A) (hj : k ≤ j)
    (h : AV X es ss ts fun s rs => ∃ d0 ds, s[i]? = some (.own d0) ∧ noView (.v i) ts = true ∧ isNs (.v i) rs ds ∧ FI d0 (ds ++ dds) fun d' d => Φ ((s.map (kill (.v i))).set i (.own d')) (.own d))
    (h0 : ss[i]? = some (.own d00) := by rfl) (hN : X.N[i]? = some y := by rfl) (hg : Gl X x := by rfl) (hv : Vis X.env.scope y := by first | exact Or.inl rfl | exact Or.inr (Or.inl rfl) | exact Or.inr (Or.inr rfl)) (hd0 : (y == ("__debug__" : Str)) = false := by decide) (hcd : (y == ("__classdict__" : Str)) = false := by decide)
    (hdb : (x == ("__debug__" : Str)) = false := by decide) (he : starEach (.Name y py :: es) X.env = (false, eval (.Name y py) X.env) :: starEach es X.env := by rfl) (hpl : (backTo pos (starEach es X.env)).any (·.1) = false := by rfl) : EV X (.Call (.Name x p) (.Name y py :: es) [] pos) ss ts Φ := by
  obtain ⟨dvs, dfl, b1, b2, b3⟩ := C.bd
  exact ev_callI i C.ok (hr.mono hj) hg C.nm C.kp b1 b2 b3 pass0 h h0 hN hv hd0 hcd hdb he hpl

/-! ### targets -/
theorem HeldF.pushs {K : PySem.W.Frag} {m : Nat → Prop} {B H : Hp} {σ : List (Option V)} {tv : List V} : ∀ {ds : List D} {vs : List V} {F : List Addr} {fp : Own → List Addr}, HeldF K m B H fp σ ss tv ts → RepOs K H ds vs F → F.Nodup → (∀ a ∈ F, ∀ o, a ∉ fp o) → (∀ a ∈ F, B a = none) →
    ∃ fp', HeldF K m B H fp' σ ss (vs ++ tv) (ds.map Slot.own ++ ts) ∧ ∀ o a, a ∈ fp' o → a ∈ fp o ∨ a ∈ F
  | [], vs, F, fp, h, r, _, _, _ => by
    unfold RepOs at r
    obtain ⟨rfl, rfl⟩ := r
    exact ⟨fp, h, fun _ _ z => .inl z⟩
  | d :: ds, vs, F, fp, h, r, nd, dj, ot => by
    unfold RepOs at r
    obtain ⟨w, ws, F1, F2, rfl, rfl, r1, r2⟩ := r
    obtain ⟨n1, n2, n3⟩ := List.nodup_append.mp nd
    obtain ⟨fp', h', k⟩ := HeldF.pushs (ds := ds) h r2 n2 (fun a ha => dj a (List.mem_append_right _ ha)) (fun a ha => ot a (List.mem_append_right _ ha))
    refine ⟨_, h'.push r1 n1 (fun a ha o _ z => ?_) (fun a ha => ot a (List.mem_append_left _ ha)), fun o a => ?_⟩
    · rcases k o a z with q | q
      · exact dj a (List.mem_append_left _ ha) o q
      · exact n3 a ha a q rfl
    · show a ∈ (if o = Own.t (ds.map Slot.own ++ ts).length then F1 else fp' o) → _
      split
      · exact fun z => .inr (List.mem_append_left _ z)
      · intro z
        rcases k o a z with q | q
        · exact .inl q
        · exact .inr (List.mem_append_right _ q)
theorem Held.scatter {K : PySem.W.Frag} {m : Nat → Prop} {B H : Hp} {σ : List (Option V)} {tv : List V} {v : V} {ds : List D} (h : Held K m B H σ ss (v :: tv) (.own (.tup ds) :: ts)) (hm : Low m ts.length) :
    ∃ a vs, v = .ref a ∧ SqT K H a vs ∧ vs.length = ds.length ∧ Held K m B H σ ss (vs ++ tv) (ds.map Slot.own ++ ts) := by
  obtain ⟨fp, h⟩ := h
  obtain ⟨fp1, F, h1, _, r, nd, dj, ot, _⟩ := h.take hm
  unfold RepO at r
  obtain ⟨a, vs, rfl, sq, r⟩ := r
  obtain ⟨fp', h', _⟩ := h1.pushs r nd dj ot
  exact ⟨a, vs, rfl, sq, r.reps.length, _, h'⟩
def wGs (X : Cx) (tgs : List Expr) : List V → L2.St → Hp → (L2.St → Hp → Prop) → Prop := fun vs σ H Q => ∃ t, PGs X tgs t ∧ t vs σ H Q
theorem pgs_w {tgs : List Expr} : PGs X tgs (wGs X tgs) := ⟨fun pins s σ H vs us Q I r ⟨t, p, q⟩ => p.run pins s σ H vs us Q I r q⟩
/-- targets; their values on the way, the first at the top -/
def GsV (X : Cx) (tgs : List Expr) (as : List Nat) (rs ss ts : List Slot) (N : List Slot → Prop) : Prop :=
  ∀ m B σ tv H xs Q, Low m ts.length → xs.length = rs.length → Held X.K m B H σ ss (xs ++ tv) (rs ++ ts) → (∀ ss' σ' H', N ss' → Held X.K m B H' σ' ss' tv ts → (∀ i, i ∉ as → σ'[i]? = σ[i]?) ∧ σ'.length = σ.length → Q σ' H') → wGs X tgs xs σ H Q
theorem gs_nil {as : List Nat} (q : N ss) : GsV X [] as [] ss ts N := fun m B σ tv H xs Q hm hl hh k => by
  cases xs with
  | cons _ _ => cases hl
  | nil => exact ⟨_, pgs_nil, rfl, k ss σ H q hh ⟨fun _ _ => rfl, rfl⟩⟩
theorem gs_cons {as : List Nat} {r : Slot} (h : GV X e as (.one r) ss (rs ++ ts) fun s => GsV X es as rs s ts N) (hs : (assignEach (e :: es) X.env).map (·.2) = assign e X.env :: (assignEach es X.env).map (·.2) := by rfl) : GsV X (e :: es) as (r :: rs) ss ts N := fun m B σ tv H xs Q hm hl hh k => by
  cases xs with
  | nil => cases hl
  | cons x xs =>
    refine ⟨_, pgs_cons pg_w pgs_w hs, x, xs, rfl, ?_⟩
    refine h m B σ (xs ++ tv) H x _ (hm.app _) hh fun s σ1 H1 q h1 ⟨z1, z2⟩ => ?_
    exact q m B σ1 tv H1 xs Q hm (by simpa using hl) h1 fun s2 σ2 H2 q2 h2 ⟨z3, z4⟩ => k s2 σ2 H2 q2 h2 ⟨fun i hi => (z3 i hi).trans (z1 i hi), z4.trans z2⟩
/-- a, b, .. = a tuple -/
theorem gv_tup {as : List Nat} {n : Nat} {ds : List D} {k : Nat} (hc : X.calm = true) (hl : ds.length = n) (h : GsV X es as (ds.map Slot.own) ss ts N)
    (hn : (assignEach es X.env).length = n := by rfl) (hst : (assignEach es X.env).findIdx? (·.1) = none := by rfl) : GV X (.Tuple es k pos) as (.one (.own (.tup ds))) ss ts N := fun m B σ tv H v Q hm hh kk => by
  obtain ⟨a, vs, rfl, sq, l, h2⟩ := Held.scatter hh hm
  refine toG (pg_tup hc pgs_w hn hst) ⟨a, vs, rfl, sq, l.trans hl, ?_⟩
  exact h m B σ tv H vs Q hm (by simpa using l) h2 kk
/-- target = e -/
theorem s1_asg {as : List Nat} (h : EV X e ss ts fun s r => GV X tg as (.one r) s ts E.nx) (hfx : ∀ i, i ∈ fx → i ∉ as) (hs : swapsWithSole [tg] e pos.line X.env = pure false := by rfl) (hw : swappedStores [tg] e X.env = pure none := by rfl)
    (h1 : (assignEach [tg] X.env).map (·.2) = [assign tg X.env] := by rfl) : S1 X fx (.Assign [tg] e pos) ss ts E := fun B σ tv H D hh k => by
  refine toS (ps_asg pe_w pg_w hs hw h1) ?_
  refine h (fun k => k < ts.length) B σ tv H _ Low.self hh fun s r v H1 q h1 => ?_
  exact q (fun k => k < ts.length) B σ tv H1 v _ Low.self h1 fun s2 σ2 H2 q2 h2 ⟨z, _⟩ => k.nx s2 σ2 H2 q2 h2 fun i hi => z i (hfx i hi)
theorem RepOs.set {K : PySem.W.Frag} {H : Hp} : ∀ {ds : List D} {vs : List V} {G F : List Addr} {d : D} {w : V} (j : Nat), RepOs K H ds vs G → G.Nodup → RepO K H d w F → F.Nodup → (∀ a ∈ F, a ∉ G) → ∃ G', RepOs K H (ds.set j d) (vs.set j w) G' ∧ G'.Nodup ∧ ∀ a ∈ G', a ∈ G ∨ a ∈ F
  | [], vs, G, F, d, w, j, r, nd, _, _, _ => by
    unfold RepOs at r
    obtain ⟨rfl, rfl⟩ := r
    exact ⟨[], by unfold RepOs; exact ⟨rfl, rfl⟩, List.nodup_nil, fun _ z => nomatch z⟩
  | d0 :: ds, vs, G, F, d, w, 0, r, nd, r0, n0, dj => by
    unfold RepOs at r
    obtain ⟨w0, ws, F1, F2, rfl, rfl, r1, r2⟩ := r
    obtain ⟨n1, n2, n3⟩ := List.nodup_append.mp nd
    refine ⟨F ++ F2, ?_, List.nodup_append.mpr ⟨n0, n2, fun a ha b hb z => dj a ha (List.mem_append_right _ (z ▸ hb))⟩, fun a ha => ?_⟩
    · unfold RepOs
      exact ⟨w, ws, F, F2, rfl, rfl, r0, r2⟩
    · rcases List.mem_append.mp ha with q | q
      · exact .inr q
      · exact .inl (List.mem_append_right _ q)
  | d0 :: ds, vs, G, F, d, w, j + 1, r, nd, r0, n0, dj => by
    unfold RepOs at r
    obtain ⟨w0, ws, F1, F2, rfl, rfl, r1, r2⟩ := r
    obtain ⟨n1, n2, n3⟩ := List.nodup_append.mp nd
    obtain ⟨G', r3, n4, s⟩ := RepOs.set (ds := ds) j r2 n2 r0 n0 fun a ha z => dj a ha (List.mem_append_right _ z)
    refine ⟨F1 ++ G', ?_, List.nodup_append.mpr ⟨n1, n4, fun a ha b hb z => ?_⟩, fun a ha => ?_⟩
    · unfold RepOs
      exact ⟨w0, _, F1, G', rfl, rfl, r1, r3⟩
    · subst z
      rcases s a hb with q | q
      · exact n3 a ha a q rfl
      · exact dj a q (List.mem_append_left _ ha)
    · rcases List.mem_append.mp ha with q | q
      · exact .inl (List.mem_append_left _ q)
      · rcases s a q with q | q
        · exact .inl (List.mem_append_right _ q)
        · exact .inr q
/-- x[b] = .., x in slot i -/
theorem gv_store {as : List Nat} {r : Slot} (i : Nat) {l0 : List D} (h : EV X b ss (r :: ts) fun s rb => ∃ l k j d, s[i]? = some (.own (.lst l)) ∧ rb.is (.int k) ∧ ixN l.length k = some j ∧ r = .own d ∧ N ((s.map (kill (.v i))).set i (.own (.lst (l.set j d)))))
    (h0 : ss[i]? = some (.own (.lst l0)) := by rfl) (hv1 : noView (.v i) ts = true := by rfl) (hN : X.N[i]? = some x := by rfl) (hv : Vis X.env.scope x := by first | exact Or.inl rfl | exact Or.inr (Or.inl rfl) | exact Or.inr (Or.inr rfl))
    (hd : (x == ("__debug__" : Str)) = false := by decide) (hcd : (x == ("__classdict__" : Str)) = false := by decide)
    (ha : ∀ v, assign (.Subscript (.Name x px) b pos) X.env v = (do
      let ov ← holding [v] (eval (.Name x px) X.env)
      let iv ← holding [v, ov] (eval b X.env)
      standAt pos
      holding [v, ov, iv] (setItem ov iv v)
      release [v, ov, iv] []) := by intro _; rfl) : GV X (.Subscript (.Name x px) b pos) as (.one r) ss ts N := fun m B σ tv H v Q hm hh kk => by
  refine toG (pg_sub (pe_var hN hv hd hcd) pe_w set_list ha) ?_
  obtain ⟨fp, hf⟩ := id hh
  obtain ⟨A, vs, G, x1, a1, _, _⟩ := hf.lst h0
  refine ⟨.ref A, x1, ?_⟩
  refine h m B σ (v :: tv) H _ hm.up hh fun s rb y H1 ⟨l, k, j, d, hi, eb, ej, er, q⟩ h1 => ?_
  subst er
  have yb := h1.top eb
  rw [rep_int] at yb
  obtain ⟨fp1, h1⟩ := h1.pop hm.up
  obtain ⟨fp2, F2, h2, s2, r2, n2, o2, b2, _⟩ := h1.take hm
  obtain ⟨A', vs', G', x2, a2, f2, g2⟩ := h2.lst hi
  rw [x1] at x2
  cases x2
  have lv := g2.reps.length
  have nd := h2.nod (.v i)
  rw [f2] at nd
  have nd2 := (List.nodup_cons.mp nd).2
  obtain ⟨G3, r3, n3, s3⟩ := RepOs.set j g2 nd2 r2 n2 fun a ha z => o2 a ha (.v i) (by rw [f2]; exact List.mem_cons_of_mem _ z)
  refine ⟨A, vs', k, j, rfl, yb, a2, by rw [lv]; exact ej, ?_⟩
  have h3 := h2.relist (getElem?_lt hi) x1 a2 f2 r3 n3 (fun b hb => (s3 b hb).imp id fun z => ⟨o2 b z, b2 b z⟩) hv1
  exact kk _ σ _ q h3 ⟨fun _ _ => rfl, rfl⟩
/-- x, y = a, b -/
theorem sPar (i j : Nat) {kt k2 : Nat} {pt pt2 : Pos} (hN : X.N.Nodup)
    (h : AV X [a, b] ss ts fun s rs => ∃ r1 r2, rs = [r1, r2] ∧ s.length = ss.length ∧ noView (.v i) (r1 :: ts) = true ∧ noView (.v j) (r2 :: r1 :: ts) = true ∧ E.nx ((((s.map (kill (.v j))).set j r2).map (kill (.v i))).set i r1))
    (hc : X.calm = true := by rfl) (hi : X.N[i]? = some x := by rfl) (hj : X.N[j]? = some y := by rfl) (hij : i ≠ j := by decide) (hfi : i ∉ fx := by decide) (hfj : j ∉ fx := by decide) (hil : (ss[i]?).isSome = true := by rfl) (hjl : (ss[j]?).isSome = true := by rfl)
    (hx : X.env.scope.names.lookup x = some .local := by rfl) (hy : X.env.scope.names.lookup y = some .local := by rfl)
    (hw : swappedStores [.Tuple [.Name x px, .Name y py] kt pt] (.Tuple [a, b] k2 pt2) X.env = pure (some [x, y]) := by rfl)
    (hs : swapsWithSole [.Tuple [.Name x px, .Name y py] kt pt] (.Tuple [a, b] k2 pt2) pos.line X.env = pure false := by rfl) :
    S1 X fx (.Assign [.Tuple [.Name x px, .Name y py] kt pt] (.Tuple [a, b] k2 pt2) pos) ss ts E := fun B σ tv H D hh k => by
  refine toS (ps_par hc hN hi hj hij hx hy pa_w hw hs) ?_
  refine h (fun k => k < ts.length) B σ tv H _ Low.self hh fun s rs vs H1 ⟨r1, r2, e, sl, n1, n2, q⟩ l1 l2 h1 => ?_
  subst e
  match vs, l1 with
  | [v1, v2], _ =>
    refine ⟨v1, v2, rfl, ?_⟩
    have a1 := (List.mem_cons_self : r2 ∈ r2 :: r1 :: ts)
    have h2 := Held.assign (σ := σ) (tv := v1 :: tv) (ts := r1 :: ts) h1 Low.self.up (by rw [sl]; exact isSome_lt hjl) (by
      cases r2 <;> first | exact n2 | (have z := n2; unfold noView at z; rw [Bool.and_eq_true] at z; exact z.2)) (fun d z => noView_mem n2 _ a1 d z)
    have h3 := Held.assign h2 Low.self (by simp only [List.length_set, List.length_map]; rw [sl]; exact isSome_lt hil) (by
      cases r1 <;> first | exact n1 | (have z := n1; unfold noView at z; rw [Bool.and_eq_true] at z; exact z.2)) (fun d z => noView_mem n1 _ List.mem_cons_self d z)
    have e : (σ.set i (some v1)).set j (some v2) = (σ.set j (some v2)).set i (some v1) := List.set_comm _ _ hij
    rw [e]
    refine k.nx _ _ H1 q h3 fun l hl => ?_
    rw [List.getElem?_set_ne (fun z => by subst z; exact hfi hl), List.getElem?_set_ne (fun z => by subst z; exact hfj hl)]

/-! ### constants of the module -/
/-- the module's name x stands for flat data -/
def GloD (K : PySem.W.Frag) (mg : Str → Option Value) (x : Str) (d : D) : Prop := ∃ u v, mg x = some u ∧ RelV v u ∧ ∀ H, RepO K H d v []
theorem ev_glo (hg : Gl X x) (hm : GloD X.K X.mg x d) (q : Φ ss (.own d)) (hd : (x == ("__debug__" : Str)) = false := by decide) : EV X (.Name x pos) ss ts Φ := by
  obtain ⟨u, v, h1, h2, h3⟩ := hm
  exact ev_const (pe_glob hg h1 h2 hd) h3 q
/-! ### built-ins -/
theorem reps3 {K : PySem.W.Frag} {H : Hp} {d e g : D} {vs : List V} (h : RepRs K H [d, e, g] vs) : ∃ v w z, vs = [v, w, z] ∧ RepR K H d v ∧ RepR K H e w ∧ RepR K H g z := by
  unfold RepRs at h
  obtain ⟨w, ws, rfl, h1, h2⟩ := h
  obtain ⟨v, z, rfl, h3, h4⟩ := reps2 h2
  exact ⟨w, v, z, rfl, h1, h3, h4⟩
theorem ev_abs (hg : Gl X "abs") (hm : X.mg "abs" = none) (h : EV X e ss ts fun s r => ∃ i, r.is (.int i) ∧ Φ s (.own (.int (if i < 0 then -i else i))))
    (he : starEach [e] X.env = (false, eval e X.env) :: starEach [] X.env := by rfl) : EV X (.Call (.Name "abs" p) [e] [] pos) ss ts Φ :=
  ev_callB call_abs hg hm (by decide +kernel) (av_cons (h.imp fun s r ⟨i, e1, q⟩ => av_nil ⟨[.int i], fun d => d = .int (if i < 0 then -i else i), ⟨e1, trivial⟩, fun H vs Q rr k => by
    obtain ⟨v, rfl, hv⟩ := reps1 rr
    rw [rep_int] at hv
    exact ⟨i, by rw [hv], k _ _ H rfl (.flat o_int)⟩, fun d hd => by rw [hd]; exact q⟩) he) (he := he)
/-- int of a bool -/
theorem ev_intB (hg : Gl X "int") (hm : X.mg "int" = none) (h : EV X e ss ts fun s r => ∃ i, r.is (.bl i) ∧ Φ s (.own (.int (if i then 1 else 0))))
    (he : starEach [e] X.env = (false, eval e X.env) :: starEach [] X.env := by rfl) : EV X (.Call (.Name "int" p) [e] [] pos) ss ts Φ :=
  ev_callTy call_int1 hg hm (by decide +kernel) (av_cons (h.imp fun s r ⟨i, e1, q⟩ => av_nil ⟨[.bl i], fun d => d = .int (if i then 1 else 0), ⟨e1, trivial⟩, fun H vs Q rr k => by
    obtain ⟨v, rfl, hv⟩ := reps1 rr
    rw [rep_bl] at hv
    exact .inr ⟨i, by rw [hv], k _ _ H rfl (.flat o_int)⟩, fun d hd => by rw [hd]; exact q⟩) he) (he := he)
/-- list of a list or tuple of flat data -/
theorem ev_listOf (hg : Gl X "list") (hm : X.mg "list" = none) (h : EV X e ss ts fun s r => ∃ d l, r.is d ∧ d.seqL = some l ∧ D.flats l = true ∧ Φ s (.own (.lst l)))
    (he : starEach [e] X.env = (false, eval e X.env) :: starEach [] X.env := by rfl) : EV X (.Call (.Name "list" p) [e] [] pos) ss ts Φ :=
  ev_callTy call_list_of hg hm (by decide +kernel) (av_cons (h.imp fun s r ⟨d, l, e1, e2, fl, q⟩ => av_nil ⟨[d], fun d => d = .lst l, ⟨e1, trivial⟩, fun H vs Q rr k => by
    obtain ⟨v, rfl, hv⟩ := reps1 rr
    obtain ⟨a, ws, rfl, h1, h2⟩ := D.seq_rep hv e2
    exact ⟨a, ws, rfl, h1, fun l hl => k _ _ _ rfl (.lstF hl (h2.flatO fl))⟩, fun d hd => by rw [hd]; exact q⟩) he) (he := he)
theorem CDivP.of {i j : Int} (h : 0 < j) (h2 : j.natAbs.log2 < 9000) : CDivP i j := ⟨h, PyProof.noPylong_of_log2 h2⟩
theorem New.tup {K : PySem.W.Frag} {H : Hp} {p : Addr} {vs : List V} {ds : List D} (hp : H p = none) (h : ∀ H, RepOs K H ds vs []) : New K H (upd H p (.tup vs)) (.ref p) (.tup ds) :=
  ⟨Ex.new hp, [], by unfold RepO; exact ⟨p, vs, rfl, .inl (.inl upd_same), h _⟩, List.nodup_nil, fun a ha => nomatch ha⟩
theorem ev_divmod (hg : Gl X "divmod") (hm : X.mg "divmod" = none) (h : EV X a ss ts fun s1 r1 => EV X b s1 (r1 :: ts) fun s r2 => ∃ i j, r1.is (.int i) ∧ r2.is (.int j) ∧ (0 < j ∧ j.natAbs.log2 < 9000) ∧ Φ s (.own (.tup [.int (i / j), .int (i % j)])))
    (he : starEach [a, b] X.env = (false, eval a X.env) :: starEach [b] X.env := by rfl) (he2 : starEach [b] X.env = (false, eval b X.env) :: starEach [] X.env := by rfl) (hpl : (backTo pos (starEach [b] X.env)).any (·.1) = false := by rfl) : EV X (.Call (.Name "divmod" p) [a, b] [] pos) ss ts Φ :=
  ev_callB call_divmodW hg hm (by decide +kernel) (av_cons (h.imp fun s1 r1 h1 => av_cons (h1.imp fun s r2 ⟨i, j, e1, e2, hc, q⟩ => av_nil ⟨[.int i, .int j], fun d => d = .tup [.int (i / j), .int (i % j)], ⟨e1, e2, trivial⟩, fun H vs Q rr k => by
    obtain ⟨v, w, rfl, hv, hw⟩ := reps2 rr
    rw [rep_int] at hv hw
    exact ⟨i, j, by rw [hv, hw], CDivP.of hc.1 hc.2, fun p hp => k _ _ _ rfl (.tup hp fun H => reps_ofInts [i / j, i % j])⟩, fun d hd => by rw [hd]; exact q⟩) he2) he) (he := he) (hpl := hpl)
/-! ### in, is -/
theorem D.scs_rep {K : PySem.W.Frag} {H : Hp} : ∀ {l : List D} {vs xs : List V}, RepRs K H l vs → l.mapM D.sc = some xs → vs = xs
  | [], vs, xs, h, e => by
    unfold RepRs at h
    cases e
    exact h
  | d :: l, vs, xs, h, e => by
    unfold RepRs at h
    obtain ⟨w, ws, rfl, h1, h2⟩ := h
    rw [List.mapM_cons] at e
    obtain ⟨x, e1, e⟩ := Option.bind_eq_some_iff.mp e
    obtain ⟨ys, e2, e⟩ := Option.bind_eq_some_iff.mp e
    cases e
    rw [D.sc_rep h1 e1, D.scs_rep h2 e2]
theorem D.sc_flat {d : D} {x : V} (e : d.sc = some x) : flatV x = true := by
  cases d <;> first | (cases e; rfl) | cases e
theorem D.scs_flat : ∀ {l : List D} {xs : List V}, l.mapM D.sc = some xs → xs.all flatV = true
  | [], xs, e => by cases e; rfl
  | d :: l, xs, e => by
    rw [List.mapM_cons] at e
    obtain ⟨x, e1, e⟩ := Option.bind_eq_some_iff.mp e
    obtain ⟨ys, e2, e⟩ := Option.bind_eq_some_iff.mp e
    cases e
    rw [List.all_cons, D.sc_flat e1, D.scs_flat e2]
    rfl
theorem tv_in (h : EV X a ss ts fun s1 r1 => EV X b s1 (r1 :: ts) fun s2 r2 => ∃ d1 d2 x l xs, r1.is d1 ∧ r2.is d2 ∧ d1.sc = some x ∧ d2.seqL = some l ∧ l.mapM D.sc = some xs ∧ Θ s2 (inV x xs)) (hb : behindInMarks .In b = false := by rfl) : TV X (.Compare a [.In] [b] pos) ss ts Θ :=
  tv_cmp2 op_in_seq hb (h.imp fun s1 r1 h1 => h1.imp fun s2 r2 ⟨d1, d2, x, l, xs, e1, e2, c1, c2, c3, q⟩ => ⟨_, _, _, e1, e2, fun H u w rx ry Q q => by
    obtain ⟨A, vs, rfl, sq, rr⟩ := D.seq_rep ry c2
    rw [D.sc_rep rx c1]
    have e := D.scs_rep rr c3
    subst e
    exact ⟨A, vs, rfl, sq, D.sc_flat c1, D.scs_flat c3, q⟩, q⟩)
theorem tv_notin (h : EV X a ss ts fun s1 r1 => EV X b s1 (r1 :: ts) fun s2 r2 => ∃ d1 d2 x l xs, r1.is d1 ∧ r2.is d2 ∧ d1.sc = some x ∧ d2.seqL = some l ∧ l.mapM D.sc = some xs ∧ Θ s2 (!inV x xs)) (hb : behindInMarks .NotIn b = false := by rfl) : TV X (.Compare a [.NotIn] [b] pos) ss ts Θ :=
  tv_cmp2 op_notIn_seq hb (h.imp fun s1 r1 h1 => h1.imp fun s2 r2 ⟨d1, d2, x, l, xs, e1, e2, c1, c2, c3, q⟩ => ⟨_, _, _, e1, e2, fun H u w rx ry Q q => by
    obtain ⟨A, vs, rfl, sq, rr⟩ := D.seq_rep ry c2
    rw [D.sc_rep rx c1]
    have e := D.scs_rep rr c3
    subst e
    exact ⟨A, vs, rfl, sq, D.sc_flat c1, D.scs_flat c3, q⟩, q⟩)
theorem tv_isB (h : EV X a ss ts fun s1 r1 => EV X b s1 (r1 :: ts) fun s2 r2 => ∃ i j, r1.is (.bl i) ∧ r2.is (.bl j) ∧ Θ s2 (decide (i = j))) : TV X (.Compare a [.Is] [b] pos) ss ts Θ :=
  tv_cmp2 op_isBl (nobehind _ (by decide) (by decide)) (h.imp fun s1 r1 h1 => h1.imp fun s2 r2 ⟨i, j, e1, e2, q⟩ => ⟨_, _, _, e1, e2, fun H x y rx ry Q q => by
    rw [rep_bl] at rx ry
    exact ⟨i, j, rx, ry, q⟩, q⟩)
theorem tv_notB (h : EV X a ss ts fun s1 r1 => EV X b s1 (r1 :: ts) fun s2 r2 => ∃ i j, r1.is (.bl i) ∧ r2.is (.bl j) ∧ Θ s2 (!decide (i = j))) : TV X (.Compare a [.IsNot] [b] pos) ss ts Θ :=
  tv_cmp2 op_notBl (nobehind _ (by decide) (by decide)) (h.imp fun s1 r1 h1 => h1.imp fun s2 r2 ⟨i, j, e1, e2, q⟩ => ⟨_, _, _, e1, e2, fun H x y rx ry Q q => by
    rw [rep_bl] at rx ry
    exact ⟨i, j, rx, ry, q⟩, q⟩)
/-! ### try that runs through -/
theorem s1_tryN {sts : List Stmt} {h0 : ExceptHandler} {hs : List ExceptHandler} (hx : X.nox = X) (h : SV X fx sts ss ts E) : S1 X fx (.Try sts (h0 :: hs) [] [] pos) ss ts E := fun B σ tv H D hh k => by
  refine toS (ps_try_thru0 (t := wSs X sts) (by rw [hx]; exact pss_w)) ?_
  exact h B σ tv H D hh k
end
end DL
/-! Fractions as pairs, in plain Lean: what lowest, plus and product come to, and how great they grow. -/
namespace DL
/-- the pair in lowest terms -/
def lowQ (p q : Int) : Int × Int := (p / (Int.gcd p q : Int), q / (Int.gcd p q : Int))
def plusQ (a b : Int × Int) : Int × Int := lowQ (a.1 * b.2 + b.1 * a.2) (a.2 * b.2)
def timesQ (a b : Int × Int) : Int × Int := lowQ (a.1 * b.1) (a.2 * b.2)
/-- in lowest terms, below 2^b -/
structure Nb (b : Nat) (x : Int × Int) : Prop where
  pos : 0 < x.2
  top : x.1.natAbs < 2 ^ b
  bot : x.2.natAbs < 2 ^ b
  cop : Int.gcd x.1 x.2 = 1
theorem gcd_pos {p q : Int} (h : 0 < q) : 0 < (Int.gcd p q : Int) := by
  have : Int.gcd p q ≠ 0 := fun z => by
    rw [Int.gcd_eq_zero_iff] at z
    omega
  omega
theorem div_le {p g : Int} (hg : 0 < g) (hd : g ∣ p) : (p / g).natAbs ≤ p.natAbs := by
  obtain ⟨k, rfl⟩ := hd
  rw [Int.mul_ediv_cancel_left _ (by omega), Int.natAbs_mul]
  exact Nat.le_mul_of_pos_left _ (by omega)
theorem lowQ_nb {p q : Int} {b : Nat} (hq : 0 < q) (h1 : p.natAbs < 2 ^ b) (h2 : q.natAbs < 2 ^ b) : Nb b (lowQ p q) := by
  have hg := gcd_pos (p := p) hq
  have d1 : (Int.gcd p q : Int) ∣ p := Int.gcd_dvd_left ..
  have d2 : (Int.gcd p q : Int) ∣ q := Int.gcd_dvd_right ..
  refine ⟨?_, Nat.lt_of_le_of_lt (div_le hg d1) h1, Nat.lt_of_le_of_lt (div_le hg d2) h2, ?_⟩
  · show 0 < q / (Int.gcd p q : Int)
    exact Int.ediv_pos_of_pos_of_dvd hq (by omega) d2
  · show Int.gcd (p / (Int.gcd p q : Int)) (q / (Int.gcd p q : Int)) = 1
    rw [Int.gcd_ediv d1 d2, Int.natAbs_natCast]
    exact Nat.div_self (by omega)
theorem lowQ_self {x : Int × Int} {b : Nat} (h : Nb b x) : lowQ x.1 x.2 = x := by
  unfold lowQ
  rw [h.cop]
  simp
theorem lt_mul {a b : Nat} {x y : Int} (h1 : x.natAbs < 2 ^ a) (h2 : y.natAbs < 2 ^ b) : (x * y).natAbs < 2 ^ (a + b) := by
  rw [Int.natAbs_mul, Nat.pow_add]
  exact Nat.mul_lt_mul'' h1 h2
theorem lt_add {a : Nat} {x y : Int} (h1 : x.natAbs < 2 ^ a) (h2 : y.natAbs < 2 ^ a) : (x + y).natAbs < 2 ^ (a + 1) := by
  rw [Nat.pow_succ]
  omega
theorem lt_up {a b : Nat} {x : Int} (h1 : x.natAbs < 2 ^ a) (h : a ≤ b) : x.natAbs < 2 ^ b := Nat.lt_of_lt_of_le h1 (Nat.pow_le_pow_right (by omega) h)
theorem Nb.up {a b : Nat} {x : Int × Int} (h : Nb a x) (hb : a ≤ b) : Nb b x := ⟨h.pos, lt_up h.top hb, lt_up h.bot hb, h.cop⟩
theorem log2_lt {x : Int} {b : Nat} (h : x.natAbs < 2 ^ b) (hb : 0 < b) : x.natAbs.log2 < b := by
  by_cases h0 : x.natAbs = 0
  · rw [h0]
    exact hb
  · exact (Nat.log2_lt h0).mpr h
theorem plusQ_nb {a b : Nat} {x y : Int × Int} (h : Nb a x) (k : Nb b y) : Nb (a + b + 1) (plusQ x y) := by
  refine lowQ_nb (Int.mul_pos h.pos k.pos) (lt_add (lt_mul h.top k.bot) ?_) (lt_up (lt_mul h.bot k.bot) (by omega))
  rw [Int.mul_comm]
  exact lt_mul h.bot k.top
theorem timesQ_nb {a b : Nat} {x y : Int × Int} (h : Nb a x) (k : Nb b y) : Nb (a + b) (timesQ x y) :=
  lowQ_nb (Int.mul_pos h.pos k.pos) (lt_mul h.top k.top) (lt_mul h.bot k.bot)
theorem nb_int {p : Int} {b : Nat} (h : p.natAbs < 2 ^ b) (hb : 0 < b) : Nb b (p, 1) :=
  ⟨Int.one_pos, h, Nat.lt_of_lt_of_le (by decide : (1 : Int).natAbs < 2 ^ 1) (Nat.pow_le_pow_right (by decide) hb), by simp⟩
theorem plusQ_zero {x : Int × Int} {b : Nat} (h : Nb b x) : plusQ (0, 1) x = x := by
  unfold plusQ
  simp only [Int.zero_mul, Int.zero_add, Int.mul_one, Int.one_mul]
  exact lowQ_self h
theorem timesQ_comm (x y : Int × Int) : timesQ x y = timesQ y x := by
  unfold timesQ
  rw [Int.mul_comm x.1, Int.mul_comm x.2]
theorem plusQ_comm (x y : Int × Int) : plusQ x y = plusQ y x := by
  unfold plusQ
  rw [Int.mul_comm x.2 y.2, Int.add_comm]
theorem gcd_fmod (p q : Int) : Int.gcd q (p.fmod q) = Int.gcd p q := by
  rw [Int.fmod_def, Int.gcd_sub_mul_left_right, Int.gcd_comm]
theorem fmod_lt (p : Int) {q : Int} (h : q ≠ 0) : (p.fmod q).natAbs < q.natAbs := by
  rw [Int.fmod_eq_emod]
  have h1 := Int.emod_nonneg p h
  have h2 := Int.emod_lt_of_pos p (b := q.natAbs) (by omega)
  have h3 : p % (q.natAbs : Int) = p % q := by
    rcases Int.natAbs_eq q with e | e
    · rw [← e]
    · rw [e]
      simp
  rw [h3] at h2
  split
  · omega
  · rename_i c
    have hq : q < 0 := by
      rw [not_or] at c
      omega
    have h0 : p % q ≠ 0 := fun z => c (.inr (Int.dvd_of_emod_eq_zero z))
    omega
theorem gcd_zero (p : Int) : (Int.gcd p 0 : Int) = if p < 0 then -p else p := by
  rw [Int.gcd_zero]
  split <;> omega
theorem gcd_dvd {p q : Int} (hq : 0 < q) (h : p % q = 0) : (Int.gcd p q : Int) = q := by
  have e : Int.gcd p q = Nat.gcd p.natAbs q.natAbs := rfl
  rw [e, Nat.gcd_eq_right (Int.natAbs_dvd_natAbs.mpr (Int.dvd_of_emod_eq_zero h))]
  omega
/-- a pair with a bottom above 0, below 2^b -/
structure Sp (b : Nat) (x : Int × Int) : Prop where
  pos : 0 < x.2
  top : x.1.natAbs < 2 ^ b
  bot : x.2.natAbs < 2 ^ b
theorem Nb.sp {b : Nat} {x : Int × Int} (h : Nb b x) : Sp b x := ⟨h.pos, h.top, h.bot⟩
theorem Sp.up {a b : Nat} {x : Int × Int} (h : Sp a x) (hb : a ≤ b) : Sp b x := ⟨h.pos, lt_up h.top hb, lt_up h.bot hb⟩
theorem gcd_emod (p : Int) {q : Int} (h : 0 < q) : Int.gcd q (p % q) = Int.gcd p q := by
  have e := gcd_fmod p q
  rwa [Int.fmod_eq_emod_of_nonneg _ (by omega)] at e
theorem ite_nn {b : Bool} {z : Int} (h : 0 ≤ z) : 0 ≤ if b = true then z else 0 := by cases b <;> first | exact h | exact Int.le_refl _
theorem ite_lt {b : Bool} {z : Int} {n : Nat} (h : z.natAbs < n) (h0 : 0 < n) : (if b = true then z else 0).natAbs < n := by cases b <;> first | exact h | exact h0
theorem gcd_emod' (p : Int) {q : Int} (h : 0 < q) : Int.gcd q (p % q) = Int.gcd q p := by
  rw [gcd_emod p h, Int.gcd_comm]
end DL
/-! The data layer, part 13: rules whose premises are worked out by the elaborator. -/
namespace DL
open PySem PySem.Spec PyProof.Rows L2
@[reducible] def slotAt : List Slot → Nat → Slot
  | [], _ => .no
  | s :: _, 0 => s
  | _ :: r, i + 1 => slotAt r i
@[reducible] def D.fl0 : D → Bool
  | .non => true
  | .bl _ => true
  | .int _ => true
  | .str _ => true
  | .raw _ => true
  | _ => false
@[reducible] def D.fls : List D → Bool
  | [] => true
  | d :: ds => match d.fl0 with
    | true => D.fls ds
    | false => false
@[reducible] def D.fl : D → Bool
  | .tup l => D.fls l
  | .non => true
  | .bl _ => true
  | .int _ => true
  | .str _ => true
  | .raw _ => true
  | _ => false
theorem D.fl0_flat {d : D} (h : d.fl0 = true) : d.flat = true := by cases d <;> first | rfl | cases h
theorem D.fls_flat : ∀ {l : List D}, D.fls l = true → D.flats l = true
  | [], _ => by unfold D.flats; rfl
  | d :: l, h => by
    unfold D.fls at h
    unfold D.flats
    cases e : d.fl0 with
    | false => rw [e] at h; cases h
    | true =>
      rw [e] at h
      rw [D.fl0_flat e, D.fls_flat h]
      rfl
theorem D.fl_flat {d : D} (h : d.fl = true) : d.flat = true := by
  cases d with
  | tup l => unfold D.flat; exact D.fls_flat h
  | _ => first | rfl | cases h
@[reducible] def nmK (i : Nat) (ss : List Slot) (Φ : List Slot → Slot → Prop) : Slot → Prop
  | .no => False
  | .own d => match d.fl with
    | true => Φ ss (.own d)
    | false => Φ ss (.view (.v i) d)
  | .par d => match d.fl with
    | true => Φ ss (.own d)
    | false => Φ ss (.par d)
  | .view o d => match d.fl with
    | true => Φ ss (.own d)
    | false => Φ ss (.view o d)
theorem slotAt_some : ∀ {ss : List Slot} {i : Nat} {s : Slot}, slotAt ss i = s → s ≠ .no → ss[i]? = some s
  | [], i, s, h, n => by
    unfold slotAt at h
    exact absurd h.symm n
  | t :: ss, 0, s, h, n => by
    unfold slotAt at h
    rw [← h]
    rfl
  | t :: ss, i + 1, s, h, n => by
    unfold slotAt at h
    rw [List.getElem?_cons_succ]
    exact slotAt_some h n
section
variable {X : Cx} {fx : List Nat} {ss ts rs : List Slot} {Φ : List Slot → Slot → Prop} {e a b c tg it o : Expr} {es : List Expr} {pos p p2 apos px py : Pos} {x y : Str} {E : DE} {Θ : List Slot → Bool → Prop} {d : D}
/-- a view's flat data, as owned -/
theorem ev_varVF {i : Nat} {ow : Own} (hN : X.N[i]? = some x) (hv : Vis X.env.scope x) (hs : ss[i]? = some (.view ow d)) (hf : d.flat = true) (q : Φ ss (.own d)) (hd : (x == ("__debug__" : Str)) = false := by decide) (hcd : (x == ("__classdict__" : Str)) = false := by decide) :
    EV X (.Name x pos) ss ts Φ := fun m B σ tv H Q hm h k => by
  refine ev_varV (Φ := fun s r => s = ss ∧ r = .view ow d) hN hv hs ⟨rfl, rfl⟩ hd hcd m B σ tv H Q hm h fun ss' r v H' ⟨e1, e2⟩ hh => ?_
  subst e1 e2
  exact k _ _ v H' q (hh.flat hm Slot.is_view hf)
/-- the name in slot i -/
theorem nm (i : Nat) (q : nmK i ss Φ (slotAt ss i)) (hN : X.N[i]? = some x := by rfl) (hv : Vis X.env.scope x := by first | exact Or.inl rfl | exact Or.inr (Or.inl rfl) | exact Or.inr (Or.inr rfl)) (hd : (x == ("__debug__" : Str)) = false := by decide) (hcd : (x == ("__classdict__" : Str)) = false := by decide) :
    EV X (.Name x pos) ss ts Φ := by
  generalize hs : slotAt ss i = s at q
  cases s with
  | no => exact q.elim
  | own d =>
    have h := slotAt_some hs (fun z => nomatch z)
    unfold nmK at q
    simp only at q
    cases e : d.fl with
    | true => rw [e] at q; exact ev_var hN hv h (D.fl_flat e) q hd hcd
    | false => rw [e] at q; exact ev_varL hN hv h q hd hcd
  | par d =>
    have h := slotAt_some hs (fun z => nomatch z)
    unfold nmK at q
    simp only at q
    cases e : d.fl with
    | true => rw [e] at q; exact ev_varPF hN hv h (D.fl_flat e) q hd hcd
    | false => rw [e] at q; exact ev_varP hN hv h q hd hcd
  | view o d =>
    have h := slotAt_some hs (fun z => nomatch z)
    unfold nmK at q
    simp only at q
    cases e : d.fl with
    | true => rw [e] at q; exact ev_varVF hN hv h (D.fl_flat e) q hd hcd
    | false => rw [e] at q; exact ev_varV hN hv h q hd hcd
/-! ### ints -/
@[reducible] def i2K (k : Int → Int → Prop) : Slot → Slot → Prop
  | .own (.int i), .own (.int j) => k i j
  | _, _ => False
theorem i2K_of {k : Int → Int → Prop} {r s : Slot} (h : i2K k r s) : ∃ i j, r = .own (.int i) ∧ s = .own (.int j) ∧ k i j := by
  unfold i2K at h
  split at h
  · exact ⟨_, _, rfl, rfl, h⟩
  · exact h.elim
theorem eSub (h : EV X a ss ts fun s1 r1 => EV X b s1 (r1 :: ts) fun s r2 => i2K (fun i j => Φ s (.own (.int (i - j)))) r1 r2) : EV X (.BinOp a .Sub b pos) ss ts Φ :=
  ev_sub (h.imp fun s1 r1 h1 => h1.imp fun s r2 h2 => by
    obtain ⟨i, j, rfl, rfl, q⟩ := i2K_of h2
    exact ⟨i, j, Slot.is_own, Slot.is_own, q⟩)
theorem eMul (h : EV X a ss ts fun s1 r1 => EV X b s1 (r1 :: ts) fun s r2 => i2K (fun i j => CMulW i j ∧ Φ s (.own (.int (i * j)))) r1 r2) : EV X (.BinOp a .Mult b pos) ss ts Φ :=
  ev_mul (h.imp fun s1 r1 h1 => h1.imp fun s r2 h2 => by
    obtain ⟨i, j, rfl, rfl, q⟩ := i2K_of h2
    exact ⟨i, j, Slot.is_own, Slot.is_own, q⟩)
theorem eMod (h : EV X a ss ts fun s1 r1 => EV X b s1 (r1 :: ts) fun s r2 => i2K (fun i j => 0 < j ∧ Φ s (.own (.int (i % j)))) r1 r2) : EV X (.BinOp a .Mod b pos) ss ts Φ :=
  ev_mod (h.imp fun s1 r1 h1 => h1.imp fun s r2 h2 => by
    obtain ⟨i, j, rfl, rfl, q⟩ := i2K_of h2
    exact ⟨i, j, Slot.is_own, Slot.is_own, q⟩)
theorem eDiv (h : EV X a ss ts fun s1 r1 => EV X b s1 (r1 :: ts) fun s r2 => i2K (fun i j => CDivW i j ∧ Φ s (.own (.int (i / j)))) r1 r2) : EV X (.BinOp a .FloorDiv b pos) ss ts Φ :=
  ev_fdiv (h.imp fun s1 r1 h1 => h1.imp fun s r2 h2 => by
    obtain ⟨i, j, rfl, rfl, q⟩ := i2K_of h2
    exact ⟨i, j, Slot.is_own, Slot.is_own, q⟩)
theorem ePow (h : EV X a ss ts fun s1 r1 => EV X b s1 (r1 :: ts) fun s r2 => i2K (fun i j => CPow i j ∧ Φ s (.own (.int (i ^ j.toNat)))) r1 r2) : EV X (.BinOp a .Pow b pos) ss ts Φ :=
  ev_ii op_pow (h.imp fun s1 r1 h1 => h1.imp fun s r2 h2 => by
    obtain ⟨i, j, rfl, rfl, q⟩ := i2K_of h2
    exact ⟨i, j, Slot.is_own, Slot.is_own, q⟩)
@[reducible] def addK (s : List Slot) (Φ : List Slot → Slot → Prop) : Slot → Slot → Prop
  | .own (.int i), .own (.int j) => Φ s (.own (.int (i + j)))
  | .own (.str x), .own (.str y) => x.length + y.length ≤ 1000000 ∧ Φ s (.own (.str (x ++ y)))
  | _, _ => False
theorem eAdd (h : EV X a ss ts fun s1 r1 => EV X b s1 (r1 :: ts) fun s r2 => addK s Φ r1 r2) : EV X (.BinOp a .Add b pos) ss ts Φ :=
  ev_addG (h.imp fun s1 r1 h1 => h1.imp fun s r2 h2 => by
    unfold addK at h2
    split at h2
    · exact .inl ⟨_, _, Slot.is_own, Slot.is_own, h2⟩
    · exact .inr ⟨_, _, Slot.is_own, Slot.is_own, h2.1, h2.2⟩
    · exact h2.elim)
@[reducible] def i1K (k : Int → Prop) : Slot → Prop
  | .own (.int i) => k i
  | _ => False
theorem i1K_of {k : Int → Prop} {r : Slot} (h : i1K k r) : ∃ i, r = .own (.int i) ∧ k i := by
  unfold i1K at h
  split at h
  · exact ⟨_, rfl, h⟩
  · exact h.elim
@[reducible] def b1K (k : Bool → Prop) : Slot → Prop
  | .own (.bl i) => k i
  | _ => False
theorem b1K_of {k : Bool → Prop} {r : Slot} (h : b1K k r) : ∃ i, r = .own (.bl i) ∧ k i := by
  unfold b1K at h
  split at h
  · exact ⟨_, rfl, h⟩
  · exact h.elim
theorem eNeg (h : EV X a ss ts fun s r => i1K (fun i => Φ s (.own (.int (-i)))) r) : EV X (.UnaryOp .USub a pos) ss ts Φ :=
  ev_neg (h.imp fun s r h => by
    obtain ⟨i, rfl, q⟩ := i1K_of h
    exact ⟨i, Slot.is_own, q⟩)
/-! ### tests -/
theorem tLt (h : EV X a ss ts fun s1 r1 => EV X b s1 (r1 :: ts) fun s r2 => i2K (fun i j => Θ s (decide (i < j))) r1 r2) : TV X (.Compare a [.Lt] [b] pos) ss ts Θ :=
  tv_lt (h.imp fun s1 r1 h1 => h1.imp fun s r2 h2 => by
    obtain ⟨i, j, rfl, rfl, q⟩ := i2K_of h2
    exact ⟨i, j, Slot.is_own, Slot.is_own, q⟩)
theorem tLe (h : EV X a ss ts fun s1 r1 => EV X b s1 (r1 :: ts) fun s r2 => i2K (fun i j => Θ s (decide (i ≤ j))) r1 r2) : TV X (.Compare a [.LtE] [b] pos) ss ts Θ :=
  tv_le (h.imp fun s1 r1 h1 => h1.imp fun s r2 h2 => by
    obtain ⟨i, j, rfl, rfl, q⟩ := i2K_of h2
    exact ⟨i, j, Slot.is_own, Slot.is_own, q⟩)
theorem tGt (h : EV X a ss ts fun s1 r1 => EV X b s1 (r1 :: ts) fun s r2 => i2K (fun i j => Θ s (decide (j < i))) r1 r2) : TV X (.Compare a [.Gt] [b] pos) ss ts Θ :=
  tv_gt (h.imp fun s1 r1 h1 => h1.imp fun s r2 h2 => by
    obtain ⟨i, j, rfl, rfl, q⟩ := i2K_of h2
    exact ⟨i, j, Slot.is_own, Slot.is_own, q⟩)
theorem tGe (h : EV X a ss ts fun s1 r1 => EV X b s1 (r1 :: ts) fun s r2 => i2K (fun i j => Θ s (decide (j ≤ i))) r1 r2) : TV X (.Compare a [.GtE] [b] pos) ss ts Θ :=
  tv_ge (h.imp fun s1 r1 h1 => h1.imp fun s r2 h2 => by
    obtain ⟨i, j, rfl, rfl, q⟩ := i2K_of h2
    exact ⟨i, j, Slot.is_own, Slot.is_own, q⟩)
/-- == of scalars of one kind -/
@[reducible] def eq2K (k : Bool → Prop) : Slot → Slot → Prop
  | .own (.int i), .own (.int j) => k (decide (i = j))
  | .own (.bl i), .own (.bl j) => k (decide (i = j))
  | .own (.str i), .own (.str j) => k (decide (i = j))
  | _, _ => False
theorem eq2K_of {k : Bool → Prop} {r s : Slot} (h : eq2K k r s) : ∃ d1 d2 x y, r.is d1 ∧ s.is d2 ∧ d1.sc = some x ∧ d2.sc = some y ∧ scal x y = true ∧ k (decide (x = y)) := by
  unfold eq2K at h
  split at h
  · rename_i i j
    refine ⟨.int i, .int j, _, _, Slot.is_own, Slot.is_own, rfl, rfl, rfl, ?_⟩
    rw [show decide (V.int i = V.int j) = decide (i = j) from decide_eq_decide.mpr ⟨fun z => V.int.inj z, fun z => by rw [z]⟩]
    exact h
  · rename_i i j
    refine ⟨.bl i, .bl j, _, _, Slot.is_own, Slot.is_own, rfl, rfl, rfl, ?_⟩
    rw [show decide (V.bl i = V.bl j) = decide (i = j) from decide_eq_decide.mpr ⟨fun z => V.bl.inj z, fun z => by rw [z]⟩]
    exact h
  · rename_i i j
    refine ⟨.str i, .str j, _, _, Slot.is_own, Slot.is_own, rfl, rfl, rfl, ?_⟩
    rw [show decide (V.str i = V.str j) = decide (i = j) from decide_eq_decide.mpr ⟨fun z => V.str.inj z, fun z => by rw [z]⟩]
    exact h
  · exact h.elim
theorem tEq (h : EV X a ss ts fun s1 r1 => EV X b s1 (r1 :: ts) fun s r2 => eq2K (fun t => Θ s t) r1 r2) : TV X (.Compare a [.Eq] [b] pos) ss ts Θ := tv_eq (h.imp fun s1 r1 h1 => h1.imp fun s r2 h2 => eq2K_of h2)
theorem tNe (h : EV X a ss ts fun s1 r1 => EV X b s1 (r1 :: ts) fun s r2 => eq2K (fun t => Θ s (!t)) r1 r2) : TV X (.Compare a [.NotEq] [b] pos) ss ts Θ := tv_ne (h.imp fun s1 r1 h1 => h1.imp fun s r2 h2 => eq2K_of h2)
/-- a comparison as a value -/
theorem eLt (h : EV X a ss ts fun s1 r1 => EV X b s1 (r1 :: ts) fun s r2 => i2K (fun i j => Φ s (.own (.bl (decide (i < j))))) r1 r2) : EV X (.Compare a [.Lt] [b] pos) ss ts Φ :=
  ev_lt (h.imp fun s1 r1 h1 => h1.imp fun s r2 h2 => by
    obtain ⟨i, j, rfl, rfl, q⟩ := i2K_of h2
    exact ⟨i, j, Slot.is_own, Slot.is_own, q⟩)
theorem eGt (h : EV X a ss ts fun s1 r1 => EV X b s1 (r1 :: ts) fun s r2 => i2K (fun i j => Φ s (.own (.bl (decide (j < i))))) r1 r2) : EV X (.Compare a [.Gt] [b] pos) ss ts Φ :=
  ev_gt (h.imp fun s1 r1 h1 => h1.imp fun s r2 h2 => by
    obtain ⟨i, j, rfl, rfl, q⟩ := i2K_of h2
    exact ⟨i, j, Slot.is_own, Slot.is_own, q⟩)
theorem eGe (h : EV X a ss ts fun s1 r1 => EV X b s1 (r1 :: ts) fun s r2 => i2K (fun i j => Φ s (.own (.bl (decide (j ≤ i))))) r1 r2) : EV X (.Compare a [.GtE] [b] pos) ss ts Φ :=
  ev_ge (h.imp fun s1 r1 h1 => h1.imp fun s r2 h2 => by
    obtain ⟨i, j, rfl, rfl, q⟩ := i2K_of h2
    exact ⟨i, j, Slot.is_own, Slot.is_own, q⟩)
theorem eLe (h : EV X a ss ts fun s1 r1 => EV X b s1 (r1 :: ts) fun s r2 => i2K (fun i j => Φ s (.own (.bl (decide (i ≤ j))))) r1 r2) : EV X (.Compare a [.LtE] [b] pos) ss ts Φ :=
  ev_le (h.imp fun s1 r1 h1 => h1.imp fun s r2 h2 => by
    obtain ⟨i, j, rfl, rfl, q⟩ := i2K_of h2
    exact ⟨i, j, Slot.is_own, Slot.is_own, q⟩)
theorem tIsB (h : EV X a ss ts fun s1 r1 => EV X b s1 (r1 :: ts) fun s r2 => b1K (fun i => b1K (fun j => Θ s (decide (i = j))) r2) r1) : TV X (.Compare a [.Is] [b] pos) ss ts Θ :=
  tv_isB (h.imp fun s1 r1 h1 => h1.imp fun s r2 h2 => by
    obtain ⟨i, rfl, h3⟩ := b1K_of h2
    obtain ⟨j, rfl, h4⟩ := b1K_of h3
    exact ⟨i, j, Slot.is_own, Slot.is_own, h4⟩)
theorem tNotB (h : EV X a ss ts fun s1 r1 => EV X b s1 (r1 :: ts) fun s r2 => b1K (fun i => b1K (fun j => Θ s (!decide (i = j))) r2) r1) : TV X (.Compare a [.IsNot] [b] pos) ss ts Θ :=
  tv_notB (h.imp fun s1 r1 h1 => h1.imp fun s r2 h2 => by
    obtain ⟨i, rfl, h3⟩ := b1K_of h2
    obtain ⟨j, rfl, h4⟩ := b1K_of h3
    exact ⟨i, j, Slot.is_own, Slot.is_own, h4⟩)
/-- a value as a test -/
theorem tVal (h : EV X e ss ts fun s r => b1K (fun t => Θ s t) r) (he : ∀ whole, isTrue e X.env whole = (do let v ← whole; standAt e.pos; holding [v] (truthy v)) := by intro _; rfl) : TV X e ss ts Θ :=
  tv_val (h.imp fun s r h => by
    obtain ⟨t, rfl, q⟩ := b1K_of h
    exact ⟨t, Slot.is_own, q⟩) he
theorem eAnd {rest : List Expr} (h : EV X a ss ts fun s r => b1K (fun t => (t = true → EV X (.BoolOp .And (b :: rest) pos) s ts Φ) ∧ (t = false → Φ s (.own (.bl false)))) r) : EV X (.BoolOp .And (a :: b :: rest) pos) ss ts Φ :=
  ev_and (h.imp fun s r h => by
    obtain ⟨t, rfl, q⟩ := b1K_of h
    exact ⟨t, Slot.is_own, q⟩)
theorem eOr {rest : List Expr} (h : EV X a ss ts fun s r => b1K (fun t => (t = true → Φ s (.own (.bl true))) ∧ (t = false → EV X (.BoolOp .Or (b :: rest) pos) s ts Φ)) r) : EV X (.BoolOp .Or (a :: b :: rest) pos) ss ts Φ :=
  ev_or (h.imp fun s r h => by
    obtain ⟨t, rfl, q⟩ := b1K_of h
    exact ⟨t, Slot.is_own, q⟩)
theorem eNot (h : EV X a ss ts fun s r => b1K (fun t => Φ s (.own (.bl (!t)))) r) : EV X (.UnaryOp .Not a pos) ss ts Φ :=
  ev_not (h.imp fun s r h => by
    obtain ⟨t, rfl, q⟩ := b1K_of h
    exact ⟨t, Slot.is_own, q⟩)
/-! ### parts, displays, calls -/
@[reducible] def seqK (k : List D → Prop) : Slot → Prop
  | .own (.tup l) => k l
  | .own (.lst l) => k l
  | .par (.tup l) => k l
  | .par (.lst l) => k l
  | .par (.fz l) => k l
  | .view _ (.tup l) => k l
  | .view _ (.lst l) => k l
  | _ => False
theorem seqK_of {k : List D → Prop} {r : Slot} (h : seqK k r) : ∃ d l, r.is d ∧ d.seqL = some l ∧ k l := by
  unfold seqK at h
  split at h
  · exact ⟨_, _, Slot.is_own, rfl, h⟩
  · exact ⟨_, _, Slot.is_own, rfl, h⟩
  · exact ⟨_, _, Slot.is_par, rfl, h⟩
  · exact ⟨_, _, Slot.is_par, rfl, h⟩
  · exact ⟨_, _, Slot.is_par, rfl, h⟩
  · exact ⟨_, _, Slot.is_view, rfl, h⟩
  · exact ⟨_, _, Slot.is_view, rfl, h⟩
  · exact h.elim
/-- o[i] of flat data -/
theorem eIx (h : EV X a ss ts fun s1 r1 => EV X b s1 (r1 :: ts) fun s r2 => seqK (fun l => i1K (fun i => ∃ d, atI l i = some d ∧ d.flat = true ∧ Φ s (.own d)) r2) r1) (hs : PlainIx b := by intro _ _; rfl) : EV X (.Subscript a b pos) ss ts Φ :=
  ev_ix hs (h.imp fun s1 r1 h1 => h1.imp fun s r2 h2 => by
    obtain ⟨d0, l, e1, e2, h3⟩ := seqK_of h2
    obtain ⟨i, rfl, d, e3, e4, q⟩ := i1K_of h3
    exact ⟨d0, l, i, d, e1, e2, Slot.is_own, e3, e4, q⟩)
theorem eLen (hg : Gl X "len") (hm : X.mg "len" = none) (h : EV X e ss ts fun s r => seqK (fun l => Φ s (.own (.int ((l.length : Nat) : Int)))) r)
    (he : starEach [e] X.env = (false, eval e X.env) :: starEach [] X.env := by rfl) : EV X (.Call (.Name "len" p) [e] [] pos) ss ts Φ :=
  ev_len hg hm (h.imp fun s r h => by
    obtain ⟨d0, l, e1, e2, h3⟩ := seqK_of h
    exact ⟨d0, l, e1, e2, h3⟩) he
theorem eAbs (hm : X.mg "abs" = none) (h : EV X e ss ts fun s r => i1K (fun i => Φ s (.own (.int (if i < 0 then -i else i)))) r) (hg : Gl X "abs" := by rfl)
    (he : starEach [e] X.env = (false, eval e X.env) :: starEach [] X.env := by rfl) : EV X (.Call (.Name "abs" p) [e] [] pos) ss ts Φ :=
  ev_abs hg hm (h.imp fun s r h => by
    obtain ⟨i, rfl, q⟩ := i1K_of h
    exact ⟨i, Slot.is_own, q⟩) he
theorem eIntB (hm : X.mg "int" = none) (h : EV X e ss ts fun s r => b1K (fun i => Φ s (.own (.int (if i then 1 else 0)))) r) (hg : Gl X "int" := by rfl)
    (he : starEach [e] X.env = (false, eval e X.env) :: starEach [] X.env := by rfl) : EV X (.Call (.Name "int" p) [e] [] pos) ss ts Φ :=
  ev_intB hg hm (h.imp fun s r h => by
    obtain ⟨i, rfl, q⟩ := b1K_of h
    exact ⟨i, Slot.is_own, q⟩) he
theorem eListOf (hm : X.mg "list" = none) (h : EV X e ss ts fun s r => seqK (fun l => D.flats l = true ∧ Φ s (.own (.lst l))) r) (hg : Gl X "list" := by rfl)
    (he : starEach [e] X.env = (false, eval e X.env) :: starEach [] X.env := by rfl) : EV X (.Call (.Name "list" p) [e] [] pos) ss ts Φ :=
  ev_listOf hg hm (h.imp fun s r h => by
    obtain ⟨d0, l, e1, e2, h3⟩ := seqK_of h
    exact ⟨d0, l, e1, e2, h3⟩) he
theorem eDivmod (hm : X.mg "divmod" = none) (h : EV X a ss ts fun s1 r1 => EV X b s1 (r1 :: ts) fun s r2 => i2K (fun i j => (0 < j ∧ j.natAbs.log2 < 9000) ∧ Φ s (.own (.tup [.int (i / j), .int (i % j)]))) r1 r2) (hg : Gl X "divmod" := by rfl)
    (he : starEach [a, b] X.env = (false, eval a X.env) :: starEach [b] X.env := by rfl) (he2 : starEach [b] X.env = (false, eval b X.env) :: starEach [] X.env := by rfl) (hpl : (backTo pos (starEach [b] X.env)).any (·.1) = false := by rfl) : EV X (.Call (.Name "divmod" p) [a, b] [] pos) ss ts Φ :=
  ev_divmod hg hm (h.imp fun s1 r1 h1 => h1.imp fun s r2 h2 => by
    obtain ⟨i, j, rfl, rfl, q⟩ := i2K_of h2
    exact ⟨i, j, Slot.is_own, Slot.is_own, q⟩) he he2 hpl
/-- all owned -/
@[reducible] def ownK : List Slot → (List D → Prop) → Prop
  | [], k => k []
  | .own d :: rs, k => ownK rs fun ds => k (d :: ds)
  | _, _ => False
theorem ownK_of : ∀ {rs : List Slot} {k : List D → Prop}, ownK rs k → ∃ ds, rs = ds.map Slot.own ∧ k ds
  | [], k, h => ⟨[], rfl, h⟩
  | .own d :: rs, k, h => by
    obtain ⟨ds, rfl, q⟩ := ownK_of (rs := rs) h
    exact ⟨d :: ds, rfl, q⟩
  | .no :: _, _, h => h.elim
  | .par _ :: _, _, h => h.elim
  | .view _ _ :: _, _, h => h.elim
@[reducible] def allK : List Slot → (List D → Prop) → Prop
  | [], k => k []
  | .own d :: rs, k => allK rs fun ds => k (d :: ds)
  | .par d :: rs, k => allK rs fun ds => k (d :: ds)
  | .view _ d :: rs, k => allK rs fun ds => k (d :: ds)
  | .no :: _, _ => False
theorem allK_of : ∀ {rs : List Slot} {k : List D → Prop}, allK rs k → ∃ ds, isAll rs ds ∧ k ds
  | [], k, h => ⟨[], trivial, h⟩
  | .own d :: rs, k, h => by
    obtain ⟨ds, i, q⟩ := allK_of (rs := rs) h
    exact ⟨d :: ds, ⟨Slot.is_own, i⟩, q⟩
  | .par d :: rs, k, h => by
    obtain ⟨ds, i, q⟩ := allK_of (rs := rs) h
    exact ⟨d :: ds, ⟨Slot.is_par, i⟩, q⟩
  | .view o d :: rs, k, h => by
    obtain ⟨ds, i, q⟩ := allK_of (rs := rs) h
    exact ⟨d :: ds, ⟨Slot.is_view, i⟩, q⟩
  | .no :: _, _, h => h.elim
@[reducible] def allNK (o : Own) : List Slot → (List D → Prop) → Prop
  | [], k => k []
  | .own d :: rs, k => allNK o rs fun ds => k (d :: ds)
  | .par d :: rs, k => allNK o rs fun ds => k (d :: ds)
  | .view o' d :: rs, k => o' ≠ o ∧ allNK o rs fun ds => k (d :: ds)
  | .no :: _, _ => False
theorem allNK_of {o : Own} : ∀ {rs : List Slot} {k : List D → Prop}, allNK o rs k → ∃ ds, isNs o rs ds ∧ k ds
  | [], k, h => ⟨[], trivial, h⟩
  | .own d :: rs, k, h => by
    obtain ⟨ds, i, q⟩ := allNK_of (rs := rs) h
    exact ⟨d :: ds, ⟨Slot.isN_own, i⟩, q⟩
  | .par d :: rs, k, h => by
    obtain ⟨ds, i, q⟩ := allNK_of (rs := rs) h
    exact ⟨d :: ds, ⟨Slot.isN_par, i⟩, q⟩
  | .view o' d :: rs, k, h => by
    obtain ⟨ds, i, q⟩ := allNK_of (rs := rs) h.2
    exact ⟨d :: ds, ⟨Slot.isN_view h.1, i⟩, q⟩
  | .no :: _, _, h => h.elim
theorem dTup {k : Nat} (h : AV X es ss ts fun s rs => ownK rs fun ds => Nat.ble ds.length 1000 = true ∧ Φ s (.own (.tup ds))) (ht : ∀ t, PA X es t → PE X (.Tuple es k pos) (tTup t) := by intro t h; exact pe_tup h) : EV X (.Tuple es k pos) ss ts Φ :=
  ev_tup (fun m B σ tv H Q hm hh k => h m B σ tv H Q hm hh fun s rs vs H' q => k s rs vs H' (by
    obtain ⟨ds, rfl, q1, q2⟩ := ownK_of q
    exact ⟨ds, rfl, Nat.le_of_ble_eq_true q1, q2⟩)) ht
theorem dLst {k : Pos} (h : AV X es ss ts fun s rs => ownK rs fun ds => Nat.ble ds.length 1000 = true ∧ Φ s (.own (.lst ds))) : EV X (.List es k) ss ts Φ :=
  ev_lst fun m B σ tv H Q hm hh k => h m B σ tv H Q hm hh fun s rs vs H' q => k s rs vs H' (by
    obtain ⟨ds, rfl, q1, q2⟩ := ownK_of q
    exact ⟨ds, rfl, Nat.le_of_ble_eq_true q1, q2⟩)
variable {k j : Nat} {ps : List Str} {f : Addr} {fd : FuncData} {dds : List D}
theorem cCall {F : List D → (D → Prop) → Prop} (C : DefAt X.prog X.w X.K X.mg X.base CX0 k x ps f fd dds F) (hr : Room j X.A) (hj : k ≤ j) (h : AV X (e :: es) ss ts fun s rs => allK rs fun ds => F (ds ++ dds) fun d => Φ s (.own d)) (hg : Gl X x := by rfl)
    (hdb : (x == ("__debug__" : Str)) = false := by decide) (he : starEach (e :: es) X.env = (false, eval e X.env) :: starEach es X.env := by rfl) (hpl : (backTo pos (starEach es X.env)).any (·.1) = false := by rfl) : EV X (.Call (.Name x p) (e :: es) [] pos) ss ts Φ :=
  eCall C hr hj (fun m B σ tv H Q hm hh k => h m B σ tv H Q hm hh fun s rs vs H' q => k s rs vs H' (allK_of q)) hg hdb he hpl
theorem cCallI {FI : D → List D → (D → D → Prop) → Prop} (C : DefI X.prog X.w X.K X.mg X.base CX0 k x ps f fd dds FI) (i : Nat) {d00 : D} (hr : Room j X.A) (hj : k ≤ j)
    (h : AV X es ss ts fun s rs => ∃ d0, s[i]? = some (.own d0) ∧ noView (.v i) ts = true ∧ allNK (.v i) rs fun ds => FI d0 (ds ++ dds) fun d' d => Φ ((s.map (kill (.v i))).set i (.own d')) (.own d))
    (h0 : ss[i]? = some (.own d00) := by rfl) (hN : X.N[i]? = some y := by rfl) (hg : Gl X x := by rfl) (hv : Vis X.env.scope y := by first | exact Or.inl rfl | exact Or.inr (Or.inl rfl) | exact Or.inr (Or.inr rfl)) (hd0 : (y == ("__debug__" : Str)) = false := by decide) (hcd : (y == ("__classdict__" : Str)) = false := by decide)
    (hdb : (x == ("__debug__" : Str)) = false := by decide) (he : starEach (.Name y py :: es) X.env = (false, eval (.Name y py) X.env) :: starEach es X.env := by rfl) (hpl : (backTo pos (starEach es X.env)).any (·.1) = false := by rfl) : EV X (.Call (.Name x p) (.Name y py :: es) [] pos) ss ts Φ :=
  eCallI C i hr hj (fun m B σ tv H Q hm hh k => h m B σ tv H Q hm hh fun s rs vs H' ⟨d0, q1, q2, q3⟩ => k s rs vs H' (by
    obtain ⟨ds, i1, q4⟩ := allNK_of q3
    exact ⟨d0, ds, q1, q2, i1, q4⟩)) h0 hN hg hv hd0 hcd hdb he hpl
end
end DL
/-! The data layer, part 14: the built-in names, bounds. -/
namespace DL
open PySem PySem.Spec PyProof.Rows L2
/-- the built-in names that no module of the law gives another meaning -/
structure Txt (mg : Str → Option Value) : Prop where
  len : mg "len" = none
  range : mg "range" = none
  str : mg "str" = none
  isi : mg "isinstance" = none
  list : mg "list" = none
  sorted : mg "sorted" = none
  sum : mg "sum" = none
  abs : mg "abs" = none
  int : mg "int" = none
  bool : mg "bool" = none
  tuple : mg "tuple" = none
  divmod : mg "divmod" = none
  zip : mg "zip" = none
  enum : mg "enumerate" = none
  max : mg "max" = none
  min : mg "min" = none
  any : mg "any" = none
  all : mg "all" = none
  verr : mg "ValueError" = none
abbrev fTxt : List He.Fa := [.free "len", .free "range", .free "str", .free "isinstance", .free "list", .free "sorted", .free "sum", .free "abs", .free "int", .free "bool", .free "tuple", .free "divmod", .free "zip", .free "enumerate", .free "max", .free "min", .free "any", .free "all", .free "ValueError"]
theorem cmul {x y : Int} (a b : Nat) (h1 : x.natAbs < 2 ^ a) (h2 : y.natAbs < 2 ^ b) (ha : 0 < a) (hb : 0 < b) (h : a + b ≤ 1000000) : CMulW x y := by
  have := log2_lt h1 ha
  have := log2_lt h2 hb
  unfold CMulW
  omega
theorem cdiv {x y : Int} (b : Nat) (h0 : 0 < y) (h2 : y.natAbs < 2 ^ b) (hb : 0 < b) (h : b ≤ 9000) : CDivW x y := ⟨h0, by
  have := log2_lt h2 hb
  omega⟩
/-- a fraction -/
@[reducible] def fr (x : Int × Int) : D := .tup [.int x.1, .int x.2]
/-- the law's pile of digits: a number, a cell, a count below n -/
def Pile (n : Nat) (d : D) : Prop := ∃ a b c : Int, d = .lst [.int a, .int b, .int c] ∧ 0 ≤ a ∧ a.natAbs < 2 ^ 500 ∧ b.natAbs < 2 ^ 31 ∧ 0 ≤ c ∧ c ≤ n
theorem Pile.up {n k : Nat} {d : D} (h : Pile n d) (e : n ≤ k) : Pile k d := by
  obtain ⟨a, b, c, h1, h2, h3, h4, h5, h6⟩ := h
  exact ⟨a, b, c, h1, h2, h3, h4, h5, by omega⟩
theorem HeldF.ownP {K : PySem.W.Frag} {m : Nat → Prop} {B H : Hp} {fp : Own → List Addr} {σ : List (Option V)} {ss ts : List Slot} {tv : List V} {i : Nat} {d : D} (h : HeldF K m B H fp σ ss tv ts) (hs : ss[i]? = some (.par d)) (hf : d.flat = true) (h1 : noView (.v i) ss = true) (h2 : noView (.v i) ts = true) :
    HeldF K m B H (fupd fp (.v i) []) σ (ss.set i (.own d)) tv ts := by
  refine ⟨h.base, by simpa using h.slen, h.tlen, h.mle, fun j s e => ?_, fun j s e => ?_, fun o o' a => ?_, fun o => ?_, fun o a => ?_, fun o a => ?_⟩
  · have hi := isSome_lt (by rw [hs]; rfl : (ss[i]?).isSome = true)
    by_cases hj : j = i
    · subst hj
      rw [List.getElem?_set_self hi] at e
      cases e
      obtain ⟨v, e1, e2⟩ := h.var j _ hs
      refine ⟨v, e1, ?_⟩
      rw [fupd_same]
      exact (e2.mono h.base).flatO hf
    · rw [List.getElem?_set_ne (Ne.symm hj)] at e
      have z := h.var j s e
      cases s with
      | no => trivial
      | par d => exact z
      | own d =>
        obtain ⟨w, e3, e4⟩ := z
        refine ⟨w, e3, ?_⟩
        rw [fupd_vv hj]
        exact e4
      | view o' d =>
        obtain ⟨z1, w, e3, e4⟩ := z
        refine ⟨z1, w, e3, ?_⟩
        rw [fupd_ne (fun z => noView_mem h1 _ (List.mem_of_getElem? e) d (by rw [z]))]
        exact e4
  · have z := h.tmp j s e
    have ms : s ∈ ts := List.mem_reverse.mp (List.mem_of_getElem? e)
    cases s with
    | no => trivial
    | par d => exact z
    | own d =>
      obtain ⟨w, e3, e4⟩ := z
      refine ⟨w, e3, ?_⟩
      rw [fupd_tv]
      exact e4
    | view o' d =>
      obtain ⟨z1, w, e3, e4⟩ := z
      refine ⟨z1, w, e3, ?_⟩
      rw [fupd_ne (fun z => noView_mem h2 _ ms d (by rw [z]))]
      exact e4
  · show a ∈ (if o = .v i then [] else fp o) → a ∈ (if o' = .v i then [] else fp o') → o = o'
    by_cases h1 : o = .v i
    · rw [if_pos h1]; exact fun z => nomatch z
    · by_cases h2 : o' = .v i
      · rw [if_pos h2]; exact fun _ z => nomatch z
      · rw [if_neg h1, if_neg h2]; exact h.disj o o' a
  · show (if o = .v i then [] else fp o).Nodup
    split
    · exact List.nodup_nil
    · exact h.nod o
  · show a ∈ (if o = .v i then [] else fp o) → _
    split
    · exact fun z => nomatch z
    · exact h.out o a
  · show a ∈ (if o = .v i then [] else fp o) → _
    split
    · exact fun z => nomatch z
    · exact h.dom o a
section
variable {X : Cx} {fx : List Nat} {ss ts : List Slot} {Φ : List Slot → Slot → Prop} {a b : Expr} {pos : Pos} {E : DE} {sts : List Stmt}
/-- flat data from outside in slot i, as the slot's own -/
theorem sv_ownP (i : Nat) {d : D} (h : SV X fx sts (ss.set i (.own d)) ts E) (hs : ss[i]? = some (.par d) := by rfl) (hf : d.flat = true := by rfl) (h1 : noView (.v i) ss = true := by rfl) (h2 : noView (.v i) ts = true := by rfl) : SV X fx sts ss ts E := fun B σ tv H D ⟨fp, hh⟩ k =>
  h B σ tv H D ⟨_, hh.ownP hs hf h1 h2⟩ k
theorem eModN (h : EV X a ss ts fun s1 r1 => EV X b s1 (r1 :: ts) fun s r2 => i2K (fun i j => j ≠ 0 ∧ Φ s (.own (.int (i.fmod j)))) r1 r2) : EV X (.BinOp a .Mod b pos) ss ts Φ :=
  ev_modN (h.imp fun s1 r1 h1 => h1.imp fun s r2 h2 => by
    obtain ⟨i, j, rfl, rfl, q⟩ := i2K_of h2
    exact ⟨i, j, Slot.is_own, Slot.is_own, q⟩)
theorem eDivN (h : EV X a ss ts fun s1 r1 => EV X b s1 (r1 :: ts) fun s r2 => i2K (fun i j => (j ≠ 0 ∧ j.natAbs.log2 < 9000) ∧ Φ s (.own (.int (i.fdiv j)))) r1 r2) : EV X (.BinOp a .FloorDiv b pos) ss ts Φ :=
  ev_fdivN (h.imp fun s1 r1 h1 => h1.imp fun s r2 h2 => by
    obtain ⟨i, j, rfl, rfl, q⟩ := i2K_of h2
    exact ⟨i, j, Slot.is_own, Slot.is_own, q⟩)
end
@[reducible] def Slot.dd : Slot → Option D
  | .own d => some d
  | .par d => some d
  | .view _ d => some d
  | .no => none
theorem Slot.dd_is {r : Slot} {d : D} (h : r.dd = some d) : r.is d := by
  cases r with
  | no => cases h
  | own _ => cases h; exact Slot.is_own
  | par _ => cases h; exact Slot.is_par
  | view _ _ => cases h; exact Slot.is_view
@[reducible] def d1K (k : D → Prop) (r : Slot) : Prop := match r.dd with
  | some d => k d
  | none => False
theorem d1K_of {k : D → Prop} {r : Slot} (h : d1K k r) : ∃ d, r.is d ∧ k d := by
  unfold d1K at h
  split at h
  · rename_i d e
    exact ⟨d, Slot.dd_is e, h⟩
  · exact h.elim
section
variable {X : Cx} {fx : List Nat} {ss ts : List Slot} {Φ : List Slot → Slot → Prop} {Θ : List Slot → Bool → Prop} {a b e : Expr} {pos p px : Pos} {E : DE} {x : Str} {tg l : Expr} {Ψ : List Slot → List Slot → List El → Prop}
theorem tEqP (hu : X.A.units + 64 < cLine) (h : EV X a ss ts fun s1 r1 => EV X b s1 (r1 :: ts) fun s r2 => d1K (fun d1 => d1K (fun d2 => d1.pl 16 = true ∧ d2.pl 16 = true ∧ Θ s (deq d1 d2)) r2) r1) : TV X (.Compare a [.Eq] [b] pos) ss ts Θ :=
  tv_eqP 16 (by decide) hu (h.imp fun s1 r1 h1 => h1.imp fun s r2 h2 => by
    obtain ⟨d1, e1, h3⟩ := d1K_of h2
    obtain ⟨d2, e2, h4⟩ := d1K_of h3
    exact ⟨d1, d2, e1, e2, h4⟩)
theorem tNeP (hu : X.A.units + 64 < cLine) (h : EV X a ss ts fun s1 r1 => EV X b s1 (r1 :: ts) fun s r2 => d1K (fun d1 => d1K (fun d2 => d1.pl 16 = true ∧ d2.pl 16 = true ∧ Θ s (!deq d1 d2)) r2) r1) : TV X (.Compare a [.NotEq] [b] pos) ss ts Θ :=
  tv_neP 16 (by decide) hu (h.imp fun s1 r1 h1 => h1.imp fun s r2 h2 => by
    obtain ⟨d1, e1, h3⟩ := d1K_of h2
    obtain ⟨d2, e2, h4⟩ := d1K_of h3
    exact ⟨d1, d2, e1, e2, h4⟩)
theorem eEqP (hu : X.A.units + 64 < cLine) (h : EV X a ss ts fun s1 r1 => EV X b s1 (r1 :: ts) fun s r2 => d1K (fun d1 => d1K (fun d2 => d1.pl 16 = true ∧ d2.pl 16 = true ∧ Φ s (.own (.bl (deq d1 d2)))) r2) r1) : EV X (.Compare a [.Eq] [b] pos) ss ts Φ :=
  ev_eqP 16 (by decide) hu (h.imp fun s1 r1 h1 => h1.imp fun s r2 h2 => by
    obtain ⟨d1, e1, h3⟩ := d1K_of h2
    obtain ⟨d2, e2, h4⟩ := d1K_of h3
    exact ⟨d1, d2, e1, e2, h4⟩)
/-- isinstance(e, T), T a built-in type; the answer b -/
theorem eIsi (t : String) (b : Bool) (hm : X.mg "isinstance" = none) (hx : X.mg x = none) (h : EV X e ss ts fun s r => d1K (fun d => ∃ n, d.tyN = some n ∧ kitB n t = some b ∧ Φ s (.own (.bl b))) r)
    (hv : bootBuiltins x = some (.type t) := by decide +kernel) (hg : Gl X "isinstance" := by rfl) (hgx : Gl X x := by rfl) (hn : x ≠ "__name__" := by decide) (hd : (x == ("__debug__" : Str)) = false := by decide)
    (hs : starEach [e, .Name x px] X.env = (false, eval e X.env) :: starEach [.Name x px] X.env := by rfl) (hs2 : starEach [.Name x px] X.env = (false, eval (.Name x px) X.env) :: starEach [] X.env := by rfl) (hpl : (backTo pos (starEach [.Name x px] X.env)).any (·.1) = false := by rfl) : EV X (.Call (.Name "isinstance" p) [e, .Name x px] [] pos) ss ts Φ :=
  ev_isi hg hm (h.imp fun s r h => by
    obtain ⟨d, e1, n, e2, e3, q⟩ := d1K_of h
    exact ev_ty hgx hx hv ⟨d, n, t, b, e1, e2, Slot.is_own, kit_ty e3, q⟩ hn hd) hs hs2 hpl
theorem eIn (h : EV X a ss ts fun s1 r1 => EV X b s1 (r1 :: ts) fun s r2 => d1K (fun d1 => seqK (fun l => ∃ x xs, d1.sc = some x ∧ l.mapM D.sc = some xs ∧ Θ s (inV x xs)) r2) r1) (hb : behindInMarks .In b = false := by rfl) : TV X (.Compare a [.In] [b] pos) ss ts Θ :=
  tv_in (h.imp fun s1 r1 h1 => h1.imp fun s r2 h2 => by
    obtain ⟨d1, e1, h3⟩ := d1K_of h2
    obtain ⟨d2, l, e2, e3, x, xs, e4, e5, q⟩ := seqK_of h3
    exact ⟨d1, d2, x, l, xs, e1, e2, e4, e3, e5, q⟩) hb
/-- a list of flat data is walked -/
theorem wLst (h : EV X l ss ts fun s r => d1K (fun d => ∃ ds, d = .lst ds ∧ (∀ d ∈ ds, d.flat = true) ∧ Ψ s [r] (ds.map fun d => .one (.own d))) r) : IV X tg l ss ts Ψ :=
  iv_listF (h.imp fun s r h => by
    obtain ⟨d, e, ds, rfl, q⟩ := d1K_of h
    exact ⟨ds, e, q⟩)
theorem wRange {a : Expr} (hm : X.mg "range" = none) (h : EV X a ss ts fun s r => i1K (fun j => (-(2 ^ 62) ≤ j ∧ j < 2 ^ 62) ∧ Ψ s [] ((List.range j.toNat).map fun k => .one (.own (.int ((k : Nat) : Int))))) r) (hg : Gl X "range" := by rfl)
    (hs : starEach [a] X.env = [(false, eval a X.env)] := by rfl) : IV X tg (.Call (.Name "range" p) [a] [] pos) ss ts Ψ :=
  iv_range1 hg hm (h.imp fun s r h => by
    obtain ⟨i, rfl, q1, q2⟩ := i1K_of h
    exact ⟨i, Slot.is_own, q1.1, q1.2, q2⟩) hs
variable {k j : Nat} {ps : List Str} {f : Addr} {fd : FuncData} {dds : List D}
/-- f() -/
theorem cCall0 {F : List D → (D → Prop) → Prop} (C : DefAt X.prog X.w X.K X.mg X.base CX0 k x ps f fd dds F) (hr : Room j X.A) (hj : k ≤ j) (h : F dds fun d => Φ ss (.own d)) (hg : Gl X x := by rfl)
    (hdb : (x == ("__debug__" : Str)) = false := by decide) : EV X (.Call (.Name x p) [] [] pos) ss ts Φ := fun m B σ tv H Q hm hh kk => by
  obtain ⟨dvs, dfl, b1, b2, b3⟩ := C.bd
  refine toE (pe_call0 C.ok (hr.mono hj) hg C.nm C.kp b1 b2 pass0 hdb) ?_
  show spP X.K F ([] ++ dvs) H Q E0
  refine spP_use (b3 H) h fun d v H2 q n => ?_
  exact kk ss _ v H2 q (hh.new n)
end
theorem atI_if {x y : Int} {b : Bool} : atI [D.int x, D.int y] (if b = true then 1 else 0) = some (.int (if b = true then y else x)) := by cases b <;> rfl
theorem atI_b {x y : Int} {r : Int} (h0 : 0 ≤ r) (h1 : r < 2) : atI [D.int x, D.int y] r = some (.int (if r = 1 then y else x)) := by
  have : r = 0 ∨ r = 1 := by omega
  rcases this with rfl | rfl <;> rfl
theorem pl_fr {x : Int × Int} : (fr x).pl 16 = true := rfl
theorem pl_lfr {l : List (Int × Int)} : (D.lst (l.map fr)).pl 16 = true := pl_lst (pls_map fun _ _ => rfl)
end DL
/-! The data layer, part 15: calls with keywords in short. -/
namespace DL
open PySem PySem.Spec PyProof.Rows L2
/-- the items at these places -/
@[reducible] def pick {α : Type} : List Nat → List α → List α
  | [], _ => []
  | i :: is, l => match l[i]? with
    | some x => x :: pick is l
    | none => pick is l
theorem pick_vals : ∀ {is : List Nat} {vs : List V} {us : List Value}, Vals vs us → Vals (pick is vs) (pick is us)
  | [], _, _, _ => .nil
  | i :: is, vs, us, r => by
    have hl := r.length
    unfold pick
    cases e : vs[i]? with
    | none =>
      have e2 : us[i]? = none := by
        rw [List.getElem?_eq_none_iff] at e ⊢
        omega
      rw [e2]
      exact pick_vals r
    | some x =>
      obtain ⟨u, e2, r2⟩ := r.get e
      rw [e2]
      exact .cons r2 (pick_vals r)
theorem pick_reps {K : PySem.W.Frag} {H : Hp} : ∀ {is : List Nat} {ds : List D} {vs : List V}, RepRs K H ds vs → RepRs K H (pick is ds) (pick is vs)
  | [], _, _, _ => by unfold pick; exact reps_nil
  | i :: is, ds, vs, r => by
    have hl := r.length
    unfold pick
    cases e : ds[i]? with
    | none =>
      have e2 : vs[i]? = none := by
        rw [List.getElem?_eq_none_iff] at e ⊢
        omega
      rw [e2]
      exact pick_reps r
    | some x =>
      obtain ⟨u, e2, r2⟩ := r.get e
      rw [e2]
      exact reps_cons r2 (pick_reps r)
/-- a def as a call with n positional values and the keywords ks sees it; dds: its defaults; is: the places of the parameters among positional values, defaults, keywords' values -/
structure DefK (P : Program) (w : World) (K : PySem.W.Frag) (mg : Str → Option Value) (base : Heap) (CX : CXT) (k : Nat) (x : Str) (ps : List Str) (f : Addr) (fd : FuncData) (n : Nat) (ks : List Str) (is : List Nat) (dds : List D) (F : List D → (D → Prop) → Prop) : Prop where
  ok : FnOk P w K mg base CX k f fd ps (spP K F)
  nm : mg x = some (.ref f)
  kp : PySem.W.keepIn K (.ref f) = true
  kb : ∃ (its : List Value) (dvs : List V), KBn K fd ps n ks (fun us ws => pick is (us ++ its ++ ws)) (fun vs zs => pick is (vs ++ dvs ++ zs)) ∧ ∀ H, RepRs K H dds dvs
section
variable {X : Cx} {fx : List Nat} {ss ts : List Slot} {Φ : List Slot → Slot → Prop} {e : Expr} {es : List Expr} {pos p : Pos} {x : Str} {k j n : Nat} {ps ks : List Str} {is : List Nat} {f : Addr} {fd : FuncData} {dds : List D} {F : List D → (D → Prop) → Prop} {kws : List Keyword}
/-- f(k = v, ..) -/
theorem cCallK0 (C : DefK X.prog X.w X.K X.mg X.base CX0 k x ps f fd 0 ks is dds F) (hr : Room j X.A) (hj : k ≤ j) (h : KV X kws ss ts fun s rs => allK rs fun ds => ds.length = ks.length ∧ F (pick is (dds ++ ds)) fun d => Φ s (.own d)) (hg : Gl X x := by rfl)
    (hall : (backToKw pos (keywordEach kws X.env)).all (·.1.isSome) = true := by rfl) (hks : (backToKw pos (keywordEach kws X.env)).filterMap (·.1) = ks := by rfl)
    (hdb : (x == ("__debug__" : Str)) = false := by decide)
    (hpl : ((backTo pos (starEach [] X.env)).any (·.1) || (backToKw pos (keywordEach kws X.env)).any (·.1.isNone)) = false := by rfl) : EV X (.Call (.Name x p) [] kws pos) ss ts Φ := by
  obtain ⟨its, dvs, b1, b2⟩ := C.kb
  refine ev_callK0 C.ok (hr.mono hj) hg C.nm C.kp b1 pass0 (fun es => pick is (dds ++ es)) (fun H zs es r _ => ?_) (fun m B σ tv H Q hm hh k => h m B σ tv H Q hm hh fun s rs vs H' q => k s rs vs H' (allK_of q)) hall hks hdb hpl
  exact pick_reps ((b2 H).append r)
/-- f(e, .., k = v, ..) -/
theorem cCallK (C : DefK X.prog X.w X.K X.mg X.base CX0 k x ps f fd n ks is dds F) (hr : Room j X.A) (hj : k ≤ j) (h : AV X (e :: es) ss ts fun s1 rs1 => KV X kws s1 (rs1.reverse ++ ts) fun s rs => allK rs1 fun ds => allK rs fun zs => (ds.length = n ∧ zs.length = ks.length) ∧ F (pick is (ds ++ dds ++ zs)) fun d => Φ s (.own d)) (hg : Gl X x := by rfl)
    (hall : (backToKw pos (keywordEach kws X.env)).all (·.1.isSome) = true := by rfl) (hks : (backToKw pos (keywordEach kws X.env)).filterMap (·.1) = ks := by rfl)
    (hdb : (x == ("__debug__" : Str)) = false := by decide) (he : starEach (e :: es) X.env = (false, eval e X.env) :: starEach es X.env := by rfl)
    (hpl : ((backTo pos (starEach (e :: es) X.env)).any (·.1) || (backToKw pos (keywordEach kws X.env)).any (·.1.isNone)) = false := by rfl) : EV X (.Call (.Name x p) (e :: es) kws pos) ss ts Φ := by
  obtain ⟨its, dvs, b1, b2⟩ := C.kb
  refine ev_callK C.ok (hr.mono hj) hg C.nm C.kp b1 pass0 (fun ds es => pick is (ds ++ dds ++ es)) (fun H vs zs ds es r1 r2 _ _ => pick_reps ((r1.append (b2 H)).append r2)) (fun m B σ tv H Q hm hh k => h m B σ tv H Q hm hh fun s1 rs1 vs1 H1 q l1 l2 hh1 => k s1 rs1 vs1 H1 (fun m B σ tv H Q hm hh k => q m B σ tv H Q hm hh fun s rs vs H' q2 => k s rs vs H' (by
    obtain ⟨ds, i1, q3⟩ := allK_of q2
    obtain ⟨zs, i2, q4, q5⟩ := allK_of q3
    exact ⟨ds, zs, i1, i2, q4.1, q4.2, q5⟩)) l1 l2 hh1) hall hks hdb he hpl
end
section
variable {K : PySem.W.Frag} {x qual : Str} {params : Arguments} {body : List Stmt} {scope : Scope} {dvs : List V} {f : Addr} {fd : FuncData} {ps : List Str}
theorem kbN (F : FunD K x qual params body scope [] [] f fd) (n : Nat) (ks : List Str) (is : List Nat) (h : ∀ (kV doc pm : Value) (an : Option Addr) (cdv ct : Value) (us ws : List Value), us.length = n → ws.length = ks.length →
      bindArgs (PySem.W.fnOf x qual params body scope .none kV doc pm an cdv ct) ⟨us, ks.zip ws⟩ = pure (ps.zip (pick is (us ++ [] ++ ws)))) :
    ∃ (its : List Value) (dvs : List V), KBn K fd ps n ks (fun us ws => pick is (us ++ its ++ ws)) (fun vs zs => pick is (vs ++ dvs ++ zs)) ∧ ∀ H, RepRs K H [] dvs := by
  obtain ⟨oc, od, dV, kV, doc, pm, an, cdv, ct, osl, rfl, lk, hcd, hD, hK⟩ := F.ex
  rcases hD with ⟨_, rfl⟩ | ⟨e, _⟩
  · exact ⟨[], [], ⟨fun s us ws X l1 l2 => .of_eq (h kV doc pm an cdv ct us ws l1 l2), fun r1 r2 => pick_vals ((r1.append .nil).append r2)⟩, fun H => reps_nil⟩
  · exact absurd rfl e
theorem kbD (F : FunD K x qual params body scope dvs [] f fd) (n : Nat) (ks : List Str) (is : List Nat) (dds : List D) (hd : dvs ≠ []) (hr : ∀ H, RepRs K H dds dvs)
    (h : ∀ (T : Addr) (kV doc pm : Value) (an : Option Addr) (cdv ct : Value) (us its ws : List Value), us.length = n → its.length = dvs.length → ws.length = ks.length →
      ∃ k, bindArgs (PySem.W.fnOf x qual params body scope (.ref T) kV doc pm an cdv ct) ⟨us, ks.zip ws⟩ = seqItems? (.ref T) >>= k ∧ k (some its.toArray) = pure (ps.zip (pick is (us ++ its ++ ws)))) :
    ∃ (its : List Value) (dvs : List V), KBn K fd ps n ks (fun us ws => pick is (us ++ its ++ ws)) (fun vs zs => pick is (vs ++ dvs ++ zs)) ∧ ∀ H, RepRs K H dds dvs := by
  obtain ⟨its, b⟩ := kb_of F n ks (fun us ds ws => pick is (us ++ ds ++ ws)) hd (fun r1 r2 r3 => pick_vals ((r1.append r2).append r3)) h
  exact ⟨its, dvs, b, hr⟩
end
end DL
/-! The data layer, part 16: the head's hook with tables. -/
namespace DL
open PySem PySem.Spec PyProof.Rows L2
abbrev AlT : Type := Bool × He.AlD
def obsT (tb : List (Str × List He.Dv)) (fa : List He.Fa) (fn : List He.DefD) (K : PySem.W.Frag) : AlT := (tb.all fun p => He.Fa.ok K (.glo p.1) && He.tupB K p.1 p.2, He.obsD fa fn K)
def SaysT (tb : List (Str × List He.Dv)) (fa : List He.Fa) (fn : List He.DefD) (K : PySem.W.Frag) : Prop := obsT tb fa fn K = (true, He.valD fn)
def obsTG (n : Nat) (tb : List (Str × List He.Dv)) (fa : List He.Fa) (fn : List He.DefD) (g : Addr → Option Obj) : AlT := obsT tb fa fn (He.frG g (He.asD g n))
def hookT (n : Nat) (tb : List (Str × List He.Dv)) (fa : List He.Fa) (fn : List He.DefD) : PySem.W.Hook where
  α := AlT
  obs := fun s => obsTG n tb fa fn s.heap.get?
  val := fun _ => (true, He.valD fn)
  says := fun _ h => ∃ K : PySem.W.Frag, K.In h ∧ SaysT tb fa fn K
  of := fun _ _ e => ⟨_, He.frG_in, e⟩
  keeps := fun _ _ _ ⟨K, hK, c⟩ k => ⟨K, PySem.W.Frag.In.keeps hK k, c⟩
theorem obsTG_eq {n : Nat} {tb : List (Str × List He.Dv)} {fa : List He.Fa} {fn : List He.DefD} {g : Addr → Option Obj} {s : Shared} (h : ∀ a, g a = s.heap.get? a) : obsTG n tb fa fn g = (hookT n tb fa fn).obs s := by
  have e : g = s.heap.get? := funext h
  rw [e] <;> rfl
section
variable {tb : List (Str × List He.Dv)} {fa : List He.Fa} {fn : List He.DefD} {K : PySem.W.Frag}
theorem SaysT.says (c : SaysT tb fa fn K) : He.SaysD fa fn K := congrArg (fun z : AlT => z.2) c
theorem SaysT.tup (c : SaysT tb fa fn K) (i : Nat) {p : Str × List He.Dv} (h : tb[i]? = some p := by rfl) : He.Fa.ok K (.glo p.1) = true ∧ He.tupB K p.1 p.2 = true := by
  have c1 : (tb.all fun p => He.Fa.ok K (.glo p.1) && He.tupB K p.1 p.2) = true := congrArg (fun z : AlT => z.1) c
  exact He.ba (List.all_eq_true.mp c1 p (List.mem_of_getElem? h))
/-- the module's name stands for a fraction -/
theorem SaysT.fr {h : Heap} {mg : Str → Option Value} (X : K.In h) (G : h.Ns mainGlobals mg) (c : SaysT tb fa fn K) (i : Nat) {x : Str} {p q : Int} (e : tb[i]? = some (x, [.int p, .int q]) := by rfl) : GloD K mg x (fr (p, q)) := by
  obtain ⟨c1, c2⟩ := c.tup i e
  refine ⟨_, .ref (He.ga K x), He.glo_ok X G c1, rfl, fun H => ?_⟩
  unfold RepO
  exact ⟨_, _, rfl, He.tupB_ok c2 H, reps_ofInts [p, q]⟩
end
theorem reps_int {K : PySem.W.Frag} {H : Hp} : ∀ ns : List Int, RepRs K H (ns.map D.int) (ns.map V.int)
  | [] => reps_nil
  | n :: ns => reps_cons r_int (DL.reps_int ns)
end DL
namespace K02
open PySem PySem.Spec PyProof.Rows L2 DL
def top (i : Nat) : Stmt := PySem.Challenge.pw_eitherslack_k02_sums_and_products.main.body.getD i (.Pass ⟨0, 0, 0, 0⟩)
-- 0 __name__ = 'eitherslack.errors'
-- 1 class SlackError []
-- 2 class NoNumber ['__init__']
-- 3 __name__ = 'eitherslack.numbers'
-- 4 NOUGHT = (0, 1)
-- 5 divisor(one, other) dflt []
abbrev s_divisor : Stmt := top 5
abbrev n_divisor : List Str := ["one", "other"]
abbrev p_divisor : List Str := ["one", "other"]
theorem sc_divisor : FnScope n_divisor p_divisor (defScope s_divisor) := ⟨rfl, rfl, rfl, by decide +kernel, rfl, by decide +kernel, by decide +kernel⟩
-- 6 lowest(top, bottom) dflt ['1']
abbrev s_lowest : Stmt := top 6
abbrev n_lowest : List Str := ["top", "bottom", "whole", "rest", "e", "by"]
abbrev p_lowest : List Str := ["top", "bottom"]
theorem sc_lowest : FnScope n_lowest p_lowest (defScope s_lowest) := ⟨rfl, rfl, rfl, by decide +kernel, rfl, by decide +kernel, by decide +kernel⟩
-- 7 plus(one, other) dflt []
abbrev s_plus : Stmt := top 7
abbrev n_plus : List Str := ["one", "other"]
abbrev p_plus : List Str := ["one", "other"]
theorem sc_plus : FnScope n_plus p_plus (defScope s_plus) := ⟨rfl, rfl, rfl, by decide +kernel, rfl, by decide +kernel, by decide +kernel⟩
-- 8 product(one, other) dflt []
abbrev s_product : Stmt := top 8
abbrev n_product : List Str := ["one", "other"]
abbrev p_product : List Str := ["one", "other"]
theorem sc_product : FnScope n_product p_product (defScope s_product) := ⟨rfl, rfl, rfl, by decide +kernel, rfl, by decide +kernel, by decide +kernel⟩
-- 9 below(one, other) dflt []
abbrev s_below : Stmt := top 9
abbrev n_below : List Str := ["one", "other"]
abbrev p_below : List Str := ["one", "other"]
theorem sc_below : FnScope n_below p_below (defScope s_below) := ⟨rfl, rfl, rfl, by decide +kernel, rfl, by decide +kernel, by decide +kernel⟩
-- 10 total(numbers) dflt []
abbrev s_total : Stmt := top 10
abbrev n_total : List Str := ["numbers", "found", "one"]
abbrev p_total : List Str := ["numbers"]
theorem sc_total : FnScope n_total p_total (defScope s_total) := ⟨rfl, rfl, rfl, by decide +kernel, rfl, by decide +kernel, by decide +kernel⟩
-- 11 __name__ = 'law_eitherslack_k02_sums_and_products'
-- 12 _law_mixed(_law_cell, _law_k) dflt []
abbrev s__law_mixed : Stmt := top 12
abbrev n__law_mixed : List Str := ["_law_cell", "_law_k", "_law_number_here"]
abbrev p__law_mixed : List Str := ["_law_cell", "_law_k"]
theorem sc__law_mixed : FnScope n__law_mixed p__law_mixed (defScope s__law_mixed) := ⟨rfl, rfl, rfl, by decide +kernel, rfl, by decide +kernel, by decide +kernel⟩
-- 13 _law_pile(_law_script, _law_k) dflt []
abbrev s__law_pile : Stmt := top 13
abbrev n__law_pile : List Str := ["_law_script", "_law_k", "_law_cell"]
abbrev p__law_pile : List Str := ["_law_script", "_law_k"]
theorem sc__law_pile : FnScope n__law_pile p__law_pile (defScope s__law_pile) := ⟨rfl, rfl, rfl, by decide +kernel, rfl, by decide +kernel, by decide +kernel⟩
-- 14 _law_take(_law_pile_here, _law_many) dflt []
abbrev s__law_take : Stmt := top 14
abbrev n__law_take : List Str := ["_law_pile_here", "_law_many", "_law_digit"]
abbrev p__law_take : List Str := ["_law_pile_here", "_law_many"]
theorem sc__law_take : FnScope n__law_take p__law_take (defScope s__law_take) := ⟨rfl, rfl, rfl, by decide +kernel, rfl, by decide +kernel, by decide +kernel⟩
-- 15 _law_lowest(_law_top, _law_bottom) dflt []
abbrev s__law_lowest : Stmt := top 15
abbrev n__law_lowest : List Str := ["_law_top", "_law_bottom", "_law_my_one", "_law_my_other"]
abbrev p__law_lowest : List Str := ["_law_top", "_law_bottom"]
theorem sc__law_lowest : FnScope n__law_lowest p__law_lowest (defScope s__law_lowest) := ⟨rfl, rfl, rfl, by decide +kernel, rfl, by decide +kernel, by decide +kernel⟩
-- 16 _law_number(_law_pile_here) dflt []
abbrev s__law_number : Stmt := top 16
abbrev n__law_number : List Str := ["_law_pile_here", "_law_lean", "_law_top"]
abbrev p__law_number : List Str := ["_law_pile_here"]
theorem sc__law_number : FnScope n__law_number p__law_number (defScope s__law_number) := ⟨rfl, rfl, rfl, by decide +kernel, rfl, by decide +kernel, by decide +kernel⟩
-- 17 _law_plus(_law_my_one, _law_my_other) dflt []
abbrev s__law_plus : Stmt := top 17
abbrev n__law_plus : List Str := ["_law_my_one", "_law_my_other"]
abbrev p__law_plus : List Str := ["_law_my_one", "_law_my_other"]
theorem sc__law_plus : FnScope n__law_plus p__law_plus (defScope s__law_plus) := ⟨rfl, rfl, rfl, by decide +kernel, rfl, by decide +kernel, by decide +kernel⟩
-- 18 _law_is(_law_found, _law_top, _law_bottom) dflt []
abbrev s__law_is : Stmt := top 18
abbrev n__law_is : List Str := ["_law_found", "_law_top", "_law_bottom"]
abbrev p__law_is : List Str := ["_law_found", "_law_top", "_law_bottom"]
theorem sc__law_is : FnScope n__law_is p__law_is (defScope s__law_is) := ⟨rfl, rfl, rfl, by decide +kernel, rfl, by decide +kernel, by decide +kernel⟩
-- 19 _law_great() dflt []
abbrev s__law_great : Stmt := top 19
abbrev n__law_great : List Str := ["_law_far", "_law_turn"]
abbrev p__law_great : List Str := []
theorem sc__law_great : FnScope n__law_great p__law_great (defScope s__law_great) := ⟨rfl, rfl, rfl, by decide +kernel, rfl, by decide +kernel, by decide +kernel⟩
-- 20 law(_law_script) dflt []
abbrev s_law : Stmt := top 20
abbrev n_law : List Str := ["_law_script", "_law_at", "_law_pile_here", "_law_some", "_law_my_one", "_law_my_other", "_law_due", "_law_number_here", "_law_handed", "_law_near", "_law_a", "_law_b", "_law_less", "_law_told", "_law_k"]
abbrev p_law : List Str := ["_law_script"]
theorem sc_law : FnScope n_law p_law (defScope s_law) := ⟨rfl, rfl, rfl, by decide +kernel, rfl, by decide +kernel, by decide +kernel⟩
section
variable {P : Program} {w : World} {K : PySem.W.Frag} {mg : Str → Option Value} {base : Heap}
def F_divisor : List D → (D → Prop) → Prop := fun ds k => ∃ p q : Int, ds = [.int p, .int q] ∧ k (.int (Int.gcd p q : Int))
theorem ok_divisor {f : Addr} {fd : FuncData} (Fn : FunD K "divisor" "divisor" (defArgs s_divisor) (defBody s_divisor) (defScope s_divisor) [] [] f fd) (T : Txt mg) : FnOk P w K mg base CX0 1 f fd p_divisor (spP K F_divisor) := by
  refine fun_okP Fn sc_divisor (fun ds q ⟨_, _, e, _⟩ => by rw [e]; rfl) fun cdv A outer s H E hr ds k hF => ?_
  obtain ⟨p, q, rfl, hk⟩ := hF
  have nd := sc_divisor.nd
  refine sv_ownP 0 (sv_ownP 1 ?_)
  refine sv_cons (s1_while (fun n s => ∃ o t : Int, s = [.own (.int o), .own (.int t)] ∧ Int.gcd o t = Int.gcd p q ∧ t.natAbs = n) (by exact PassesOwn.never) ⟨_, p, q, rfl, rfl, rfl⟩ ?_)
  rintro n s ⟨o, t, rfl, hg, rfl⟩
  refine tNe <| nm 1 <| ev_int ⟨fun e => sv_one <| sPar 0 1 nd <| av_cons <| nm 1 <| av_cons <| eModN <| nm 0 <| nm 1 ⟨?_, av_nil ⟨_, _, rfl, rfl, rfl, rfl, ⟨_, ?_, _, _, rfl, ?_, rfl⟩⟩⟩, fun e => sv_one <| s1_ret <| eAbs T.abs <| nm 0 ⟨_, rfl, ?_⟩⟩
  · simpa using e
  · exact fmod_lt _ (by simpa using e)
  · rw [gcd_fmod]; exact hg
  · have e0 : t = 0 := by simpa using e
    subst e0
    rw [← gcd_zero, hg]
    exact hk
def F_lowest : List D → (D → Prop) → Prop := fun ds k => ∃ p q : Int, ds = [.int p, .int q] ∧ (0 < q ∧ q.natAbs < 2 ^ 8990) ∧ k (fr (lowQ p q))
theorem ok_lowest {dvs : List V} {f : Addr} {fd : FuncData} (Fn : FunD K "lowest" "lowest" (defArgs s_lowest) (defBody s_lowest) (defScope s_lowest) dvs [] f fd) (T : Txt mg) {f1 : Addr} {fd1 : FuncData} (C : DefAt P w K mg base CX0 1 "divisor" p_divisor f1 fd1 [] F_divisor) : FnOk P w K mg base CX0 2 f fd p_lowest (spP K F_lowest) := by
  refine fun_okP Fn sc_lowest (fun ds q ⟨_, _, e, _⟩ => by rw [e]; rfl) fun cdv A outer s H E hr ds k hF => ?_
  obtain ⟨p, q, rfl, ⟨hq, hb⟩, hk⟩ := hF
  have nd := sc_lowest.nd
  have hg := gcd_pos (p := p) hq
  have d2 : (Int.gcd p q : Int) ∣ q := Int.gcd_dvd_right ..
  refine sv_cons (s1_tryN rfl (sv_one (s1_asg (as := [2, 3]) (eDivmod T.divmod <| nm 0 <| nm 1 ⟨⟨hq, log2_lt (lt_up hb (by decide)) (by decide)⟩, gv_tup rfl rfl <| gs_cons <| gOne 2 nd <| gs_cons <| gOne 3 nd <| gs_nil ?_⟩) (by decide))))
  refine sv_norm (ss' := [.par (.int p), .par (.int q), .own (.int (p / q)), .own (.int (p % q)), .no, .no]) (by rfl) ?_
  refine sv_cons (s1_if <| tEq <| nm 3 <| ev_int ⟨fun e => sv_one <| s1_ret <| dTup <| av_cons <| nm 2 <| av_cons <| ev_int <| av_nil ⟨rfl, _, rfl, ?_⟩, fun e => sv_nil ?_⟩)
  · have e0 : p % q = 0 := by simpa using e
    have e1 : (Int.gcd p q : Int) = q := gcd_dvd hq e0
    unfold lowQ at hk
    rw [e1, Int.ediv_self (by omega)] at hk
    exact hk
  refine sv_cons (sSet 5 nd <| cCall C hr (by decide) <| av_cons <| nm 0 <| av_cons <| nm 1 <| av_nil ⟨_, _, rfl, rfl, rfl, ?_⟩)
  refine sv_norm (ss' := [.par (.int p), .par (.int q), .own (.int (p / q)), .own (.int (p % q)), .no, .own (.int (Int.gcd p q : Int))]) (by rfl) ?_
  refine sv_cons (s1_if <| tLt <| nm 1 <| ev_int ⟨fun e => absurd (of_decide_eq_true e) (by omega), fun _ => sv_nil ?_⟩)
  have hgb : (Int.gcd p q : Int).natAbs < 2 ^ 8990 := Nat.lt_of_le_of_lt (Nat.le_of_dvd (by omega) (Int.natAbs_dvd_natAbs.mpr d2)) hb
  refine sv_one (s1_ret <| dTup <| av_cons <| eDiv <| nm 0 <| nm 5 ⟨cdiv 8990 hg hgb (by decide) (by decide), av_cons <| eDiv <| nm 1 <| nm 5 ⟨cdiv 8990 hg hgb (by decide) (by decide), av_nil ⟨rfl, _, rfl, hk⟩⟩⟩)
def F_plus : List D → (D → Prop) → Prop := fun ds k => ∃ (a b : Int × Int) (m : Nat), ds = [fr a, fr b] ∧ (Sp m a ∧ Sp m b ∧ m ≤ 4400) ∧ k (fr (plusQ a b))
theorem ok_plus {f : Addr} {fd : FuncData} (Fn : FunD K "plus" "plus" (defArgs s_plus) (defBody s_plus) (defScope s_plus) [] [] f fd) {f1 : Addr} {fd1 : FuncData} (C : DefAt P w K mg base CX0 2 "lowest" p_lowest f1 fd1 [] F_lowest) : FnOk P w K mg base CX0 3 f fd p_plus (spP K F_plus) := by
  refine fun_okP Fn sc_plus (fun ds q ⟨_, _, _, e, _⟩ => by rw [e]; rfl) fun cdv A outer s H E hr ds k hF => ?_
  obtain ⟨a, b, m, rfl, ⟨ha, hb, hm⟩, hk⟩ := hF
  have nd := sc_plus.nd
  have h1 := fun {x y : Int} (h1 : x.natAbs < 2 ^ m) (h2 : y.natAbs < 2 ^ m) => cmul (m + 1) (m + 1) (lt_up h1 (Nat.le_succ m)) (lt_up h2 (Nat.le_succ m)) (Nat.succ_pos _) (Nat.succ_pos _) (by omega)
  refine sv_one (s1_ret <| cCall C hr (by decide) <| av_cons <| eAdd <| eMul <| eIx <| nm 0 <| ev_int ⟨_, rfl, rfl, eIx <| nm 1 <| ev_int ⟨_, rfl, rfl, h1 ha.top hb.bot, eMul <| eIx <| nm 1 <| ev_int ⟨_, rfl, rfl, eIx <| nm 0 <| ev_int ⟨_, rfl, rfl, h1 hb.top ha.bot, av_cons <| eMul <| eIx <| nm 0 <| ev_int ⟨_, rfl, rfl, eIx <| nm 1 <| ev_int ⟨_, rfl, rfl, h1 ha.bot hb.bot, av_nil ⟨_, _, rfl, ⟨Int.mul_pos ha.pos hb.pos, lt_up (lt_mul ha.bot hb.bot) (by omega)⟩, _, rfl, hk⟩⟩⟩⟩⟩⟩⟩)
def F_product : List D → (D → Prop) → Prop := fun ds k => ∃ (a b : Int × Int) (m : Nat), ds = [fr a, fr b] ∧ (Sp m a ∧ Sp m b ∧ m ≤ 4400) ∧ k (fr (timesQ a b))
theorem ok_product {f : Addr} {fd : FuncData} (Fn : FunD K "product" "product" (defArgs s_product) (defBody s_product) (defScope s_product) [] [] f fd) {f1 : Addr} {fd1 : FuncData} (C : DefAt P w K mg base CX0 2 "lowest" p_lowest f1 fd1 [] F_lowest) : FnOk P w K mg base CX0 3 f fd p_product (spP K F_product) := by
  refine fun_okP Fn sc_product (fun ds q ⟨_, _, _, e, _⟩ => by rw [e]; rfl) fun cdv A outer s H E hr ds k hF => ?_
  obtain ⟨a, b, m, rfl, ⟨ha, hb, hm⟩, hk⟩ := hF
  have nd := sc_product.nd
  have h1 := fun {x y : Int} (h1 : x.natAbs < 2 ^ m) (h2 : y.natAbs < 2 ^ m) => cmul (m + 1) (m + 1) (lt_up h1 (Nat.le_succ m)) (lt_up h2 (Nat.le_succ m)) (Nat.succ_pos _) (Nat.succ_pos _) (by omega)
  refine sv_one (s1_ret <| cCall C hr (by decide) <| av_cons <| eMul <| eIx <| nm 0 <| ev_int ⟨_, rfl, rfl, eIx <| nm 1 <| ev_int ⟨_, rfl, rfl, h1 ha.top hb.top, av_cons <| eMul <| eIx <| nm 0 <| ev_int ⟨_, rfl, rfl, eIx <| nm 1 <| ev_int ⟨_, rfl, rfl, h1 ha.bot hb.bot, av_nil ⟨_, _, rfl, ⟨Int.mul_pos ha.pos hb.pos, lt_up (lt_mul ha.bot hb.bot) (by omega)⟩, _, rfl, hk⟩⟩⟩⟩⟩)
def F_below : List D → (D → Prop) → Prop := fun ds k => ∃ (a b : Int × Int) (m : Nat), ds = [fr a, fr b] ∧ (Sp m a ∧ Sp m b ∧ m ≤ 4400) ∧ k (.bl (decide (a.1 * b.2 < b.1 * a.2)))
theorem ok_below {f : Addr} {fd : FuncData} (Fn : FunD K "below" "below" (defArgs s_below) (defBody s_below) (defScope s_below) [] [] f fd) : FnOk P w K mg base CX0 1 f fd p_below (spP K F_below) := by
  refine fun_okP Fn sc_below (fun ds q ⟨_, _, _, e, _⟩ => by rw [e]; rfl) fun cdv A outer s H E hr ds k hF => ?_
  obtain ⟨a, b, m, rfl, ⟨ha, hb, hm⟩, hk⟩ := hF
  have nd := sc_below.nd
  have h1 := fun {x y : Int} (h1 : x.natAbs < 2 ^ m) (h2 : y.natAbs < 2 ^ m) => cmul (m + 1) (m + 1) (lt_up h1 (Nat.le_succ m)) (lt_up h2 (Nat.le_succ m)) (Nat.succ_pos _) (Nat.succ_pos _) (by omega)
  refine sv_one (s1_ret <| eLt <| eMul <| eIx <| nm 0 <| ev_int ⟨_, rfl, rfl, eIx <| nm 1 <| ev_int ⟨_, rfl, rfl, h1 ha.top hb.bot, eMul <| eIx <| nm 1 <| ev_int ⟨_, rfl, rfl, eIx <| nm 0 <| ev_int ⟨_, rfl, rfl, h1 hb.top ha.bot, _, rfl, hk⟩⟩⟩⟩)
def F_total : List D → (D → Prop) → Prop := fun ds k => ∃ (l : List (Int × Int)) (m : Nat), ds = [.lst (l.map fr)] ∧ ((∀ x ∈ l, Sp m x) ∧ (∀ i, i < l.length → Sp m ((l.take i).foldl plusQ (0, 1))) ∧ m ≤ 4400) ∧ k (fr (l.foldl plusQ (0, 1)))
theorem ok_total {f : Addr} {fd : FuncData} (Fn : FunD K "total" "total" (defArgs s_total) (defBody s_total) (defScope s_total) [] [] f fd) (G : GloD K mg "NOUGHT" (fr (0, 1))) {f1 : Addr} {fd1 : FuncData} (C : DefAt P w K mg base CX0 3 "plus" p_plus f1 fd1 [] F_plus) : FnOk P w K mg base CX0 4 f fd p_total (spP K F_total) := by
  refine fun_okP Fn sc_total (fun ds q ⟨_, _, e, _⟩ => by rw [e]; rfl) fun cdv A outer s H E hr ds k hF => ?_
  obtain ⟨l, m, rfl, ⟨ha, hb, hm⟩, hk⟩ := hF
  have nd := sc_total.nd
  refine sv_cons (sSet 1 nd <| ev_glo rfl G ⟨rfl, rfl, ?_⟩)
  refine sv_norm (ss' := [.par (.lst (l.map fr)), .own (fr (0, 1)), .no]) (by rfl) ?_
  refine sv_cons (sFor [1, 2] <| wLst <| nm 0 ⟨_, rfl, flat_map fun _ => rfl, fun i s => s = [.par (.lst (l.map fr)), .own (fr ((l.take i).foldl plusQ (0, 1))), .no], rfl, ?_, ?_⟩)
  · rintro i el s hel rfl
    obtain ⟨x, hx, rfl⟩ := els_get2 hel
    refine gOne 2 nd <| sv_cons <| sSet 1 nd <| cCall C hr (by decide) <| av_cons <| nm 1 <| av_cons <| nm 2 <| av_nil ⟨_, _, m, rfl, ⟨hb i (getElem?_lt hx), ha x (List.mem_of_getElem? hx), hm⟩, rfl, rfl, ?_⟩
    refine sv_forget [2] (sv_nil ?_)
    show (_ : List Slot) = _
    rw [take_next hx, List.foldl_append]
    rfl
  · rintro s rfl
    refine sv_one <| s1_ret <| nm 1 ⟨_, rfl, ?_⟩
    rw [List.length_map, List.length_map, List.take_length]
    exact hk
def F__law_mixed : List D → (D → Prop) → Prop := fun ds k => ∃ x y : Int, ds = [.int x, .int y] ∧ y.natAbs < 2 ^ 100 ∧ ∀ r, k (.int r)
theorem ok__law_mixed {f : Addr} {fd : FuncData} (Fn : FunD K "_law_mixed" "_law_mixed" (defArgs s__law_mixed) (defBody s__law_mixed) (defScope s__law_mixed) [] [] f fd) : FnOk P w K mg base CX0 1 f fd p__law_mixed (spP K F__law_mixed) := by
  refine fun_okP Fn sc__law_mixed (fun ds q ⟨_, _, e, _⟩ => by rw [e]; rfl) fun cdv A outer s H E hr ds k hF => ?_
  obtain ⟨x, y, rfl, hy, hk⟩ := hF
  have nd := sc__law_mixed.nd
  have c1 : CMulW (x % 2147483647) 48271 := cmul 40 40 (by omega) (by decide) (by decide) (by decide) (by decide)
  have c2 : CMulW y 69621 := cmul 100 40 hy (by decide) (by decide) (by decide) (by decide)
  refine sv_cons (sSet 2 nd <| eMod <| eAdd <| eAdd <| eMul <| eMod <| nm 0 <| ev_int ⟨by decide, ev_int ⟨c1, eMul <| nm 1 <| ev_int ⟨c2, ev_int <| ev_int ⟨by decide, rfl, rfl, ?_⟩⟩⟩⟩)
  generalize (x % 2147483647 * 48271 + y * 69621 + 11) = z
  refine sv_norm (ss' := [.par (.int x), .par (.int y), .own (.int (z % 2147483647))]) (by rfl) ?_
  have c3 : CMulW (z % 2147483647) (z % 2147483647) := cmul 40 40 (by omega) (by omega) (by decide) (by decide) (by decide)
  refine sv_cons (sSet 2 nd <| eMod <| eMul <| nm 2 <| nm 2 ⟨c3, ev_int ⟨by decide, rfl, rfl, ?_⟩⟩)
  generalize z % 2147483647 * (z % 2147483647) = u
  refine sv_norm (ss' := [.par (.int x), .par (.int y), .own (.int (u % 2147483629))]) (by rfl) ?_
  have c4 : CMulW (u % 2147483629) (u % 2147483629) := cmul 40 40 (by omega) (by omega) (by decide) (by decide) (by decide)
  refine sv_one (s1_ret <| eDiv <| eMod <| eMul <| nm 2 <| nm 2 ⟨c4, ev_int ⟨by decide, ev_int ⟨cdiv 10 (by decide) (by decide) (by decide) (by decide), _, rfl, hk _⟩⟩⟩)
def F__law_pile : List D → (D → Prop) → Prop := fun ds k => ∃ (ns : List Int) (i : Nat), ds = [.fz (ns.map D.int), .int i] ∧ i ≤ 100 ∧ ∀ d, Pile 10000 d → k d
theorem ok__law_pile {f : Addr} {fd : FuncData} (Fn : FunD K "_law_pile" "_law_pile" (defArgs s__law_pile) (defBody s__law_pile) (defScope s__law_pile) [] [] f fd) (T : Txt mg) : FnOk P w K mg base CX0 1 f fd p__law_pile (spP K F__law_pile) := by
  refine fun_okP Fn sc__law_pile (fun ds q ⟨_, _, e, _⟩ => by rw [e]; rfl) fun cdv A outer s H E hr ds k hF => ?_
  obtain ⟨ns, i, rfl, hi, hk⟩ := hF
  have nd := sc__law_pile.nd
  refine sv_cons (sSet 2 nd <| ev_int ⟨rfl, rfl, ?_⟩)
  refine sv_norm (ss' := [.par (.fz (ns.map D.int)), .par (.int i), .own (.int 0)]) (by rfl) ?_
  refine sv_cons (s1_if <| tLt <| nm 1 <| eLen rfl T.len <| nm 0 ?_)
  have rest : ∀ c : Int, SV (cxOf CX0 P w K mg base n__law_pile "_law_pile" (defScope s__law_pile) f cdv A outer s H E).nox [] ((defBody s__law_pile).drop 2) [.par (.fz (ns.map D.int)), .par (.int i), .own (.int c)] [] { nx := fun _ => k .non, rt := fun _ r => ∃ d, r = .own d ∧ k d } := fun c => by
    have e50 : (10 : Int) ^ (50 : Int).toNat = 100000000000000000000000000000000000000000000000000 := by decide +kernel
    have e18 : (10 : Int) ^ (18 : Int).toNat = 1000000000000000000 := by decide +kernel
    refine sv_one (s1_ret <| dLst <| av_cons <| eIx <| dLst <| av_cons <| ev_int <| av_cons <| eMod <| nm 2 <| eMul <| eMul <| ePow <| ev_int <| ev_int ⟨⟨by decide, by decide, by decide⟩, ePow <| ev_int <| ev_int ⟨⟨by decide, by decide, by decide⟩, ?_⟩⟩)
    rw [e50]
    refine ⟨cmul 200 200 (by decide +kernel) (by decide +kernel) (by decide) (by decide) (by decide), ePow <| ev_int <| ev_int ⟨⟨by decide, by decide, by decide⟩, ?_⟩⟩
    rw [e50]
    refine ⟨cmul 400 200 (by decide +kernel) (by decide +kernel) (by decide) (by decide) (by decide), by decide, av_nil ⟨rfl, eIntB T.int <| eGe <| eAbs T.abs <| nm 2 <| ePow <| ev_int <| ev_int ⟨⟨by decide, by decide, by decide⟩, ?_⟩⟩⟩
    rw [e18]
    have hz0 := Int.emod_nonneg c (show (100000000000000000000000000000000000000000000000000 * 100000000000000000000000000000000000000000000000000 * 100000000000000000000000000000000000000000000000000 : Int) ≠ 0 by decide)
    have hz1 : (c % (100000000000000000000000000000000000000000000000000 * 100000000000000000000000000000000000000000000000000 * 100000000000000000000000000000000000000000000000000)).natAbs < 2 ^ 500 := by
      have h2 := Int.emod_lt_of_pos c (show (0 : Int) < 100000000000000000000000000000000000000000000000000 * 100000000000000000000000000000000000000000000000000 * 100000000000000000000000000000000000000000000000000 by decide)
      have h3 : (100000000000000000000000000000000000000000000000000 * 100000000000000000000000000000000000000000000000000 * 100000000000000000000000000000000000000000000000000 : Int) < 2 ^ 500 := by decide +kernel
      have h4 : ((2 ^ 500 : Nat) : Int) = 2 ^ 500 := by decide +kernel
      omega
    generalize c % (100000000000000000000000000000000000000000000000000 * 100000000000000000000000000000000000000000000000000 * 100000000000000000000000000000000000000000000000000) = z at hz0 hz1 ⊢
    refine ⟨_, atI_if, rfl, av_cons <| eMod <| nm 2 <| ev_int ⟨by decide, av_cons <| eMul <| ev_int <| nm 1 ⟨cmul 10 10 (by decide) ?_ (by decide) (by decide) (by decide), av_nil ⟨rfl, _, rfl, hk _ ⟨_, _, _, rfl, ite_nn hz0, ite_lt hz1 (Nat.two_pow_pos _), ?_, ?_, ?_⟩⟩⟩⟩⟩
    · omega
    · omega
    · omega
    · omega
  by_cases hlt : i < ns.length
  · refine ⟨fun _ => sv_one <| sSet 2 nd <| eIx <| nm 0 <| nm 1 ⟨.int ns[i], ?_, rfl, rfl, rfl, rest _⟩, fun e => absurd (of_decide_eq_false e) ?_⟩
    · unfold atI ixN
      rw [if_pos (by omega), if_pos (by rw [List.length_map]; omega)]
      simp [hlt]
    · rw [List.length_map]
      omega
  · refine ⟨fun e => absurd (of_decide_eq_true e) ?_, fun _ => sv_nil (rest 0)⟩
    rw [List.length_map]
    omega
def F__law_take : D → List D → (D → D → Prop) → Prop := fun d0 ds k => ∃ (n : Nat) (m : Int), ds = [.int m] ∧ (Pile n d0 ∧ 0 < m ∧ m < 2 ^ 100 ∧ n ≤ 2 ^ 60) ∧ ∀ d' r, Pile (n + 1) d' → 0 ≤ r → r < m → k d' (.int r)
theorem ok__law_take {f : Addr} {fd : FuncData} (Fn : FunD K "_law_take" "_law_take" (defArgs s__law_take) (defBody s__law_take) (defScope s__law_take) [] [] f fd) {f1 : Addr} {fd1 : FuncData} (C : DefAt P w K mg base CX0 1 "_law_mixed" p__law_mixed f1 fd1 [] F__law_mixed) : FnOk P w K mg base CX0 2 f fd p__law_take (spI K F__law_take) := by
  refine fun_okI Fn sc__law_take (fun d0 ds q ⟨_, _, e, _⟩ => by rw [e]; rfl) fun cdv A outer s H E hr d0 ds k hF => ?_
  obtain ⟨n, m, rfl, ⟨⟨a, b, c, rfl, ha0, ha, hb, hc0, hc⟩, hm0, hm, hn⟩, hk⟩ := hF
  have nd := sc__law_take.nd
  have hmb : m.natAbs < 2 ^ 100 := by
    have h4 : ((2 ^ 100 : Nat) : Int) = 2 ^ 100 := by decide +kernel
    omega
  refine sv_cons (s1_if <| eIn <| eIx <| nm 0 <| ev_int ⟨_, rfl, rfl, dLst <| av_cons <| ev_int <| av_cons <| eNeg <| ev_int <| av_nil ⟨rfl, _, _, rfl, rfl, fun _ => ?_, fun _ => sv_nil ?_⟩⟩)
  · refine sv_cons (s1_asg (as := []) (eAdd <| eIx <| nm 0 <| ev_int ⟨_, rfl, rfl, ev_int <| gv_store 0 <| ev_int ⟨_, _, _, _, rfl, Slot.is_own, rfl, rfl, ?_⟩⟩) (by decide))
    refine sv_norm (ss' := [.own (.lst [.int a, .int b, .int (c + 1)]), .par (.int m), .no]) (by rfl) ?_
    have hcb : (c + 1).natAbs < 2 ^ 100 := by
      have h4 : (2 ^ 60 : Nat) + 1 < 2 ^ 100 := by decide +kernel
      omega
    refine sv_one (s1_ret <| eMod <| cCall C hr (by decide) <| av_cons <| eIx <| nm 0 <| ev_int ⟨_, rfl, rfl, av_cons <| eIx <| nm 0 <| ev_int ⟨_, rfl, rfl, av_nil ⟨_, _, rfl, hcb, fun r => nm 1 ⟨hm0, _, _, rfl, rfl, hk _ _ ⟨_, _, _, rfl, ha0, ha, hb, by omega, by omega⟩ (Int.emod_nonneg _ (by omega)) (Int.emod_lt_of_pos _ hm0)⟩⟩⟩⟩)
  · refine sv_cons (sSet 2 nd <| eMod <| eIx <| nm 0 <| ev_int ⟨_, rfl, rfl, nm 1 ⟨hm0, rfl, rfl, ?_⟩⟩)
    refine sv_norm (ss' := [.own (.lst [.int a, .int b, .int c]), .par (.int m), .own (.int (a % m))]) (by rfl) ?_
    refine sv_cons (s1_asg (as := []) (eDiv <| eIx <| nm 0 <| ev_int ⟨_, rfl, rfl, nm 1 ⟨cdiv 100 hm0 hmb (by decide) (by decide), gv_store 0 <| ev_int ⟨_, _, _, _, rfl, Slot.is_own, rfl, rfl, ?_⟩⟩⟩) (by decide))
    refine sv_norm (ss' := [.own (.lst [.int (a / m), .int b, .int c]), .par (.int m), .own (.int (a % m))]) (by rfl) ?_
    refine sv_one (s1_ret <| nm 2 ⟨_, _, rfl, rfl, hk _ _ ⟨_, _, _, rfl, Int.ediv_nonneg ha0 (by omega), ?_, hb, hc0, by omega⟩ (Int.emod_nonneg _ (by omega)) (Int.emod_lt_of_pos _ hm0)⟩)
    have := Int.ediv_le_self m ha0
    have := Int.ediv_nonneg ha0 (show 0 ≤ m by omega)
    omega
end
end K02
namespace K02
open PySem PySem.Spec PyProof.Rows L2 DL
def top0 (i : Nat) : Stmt := PySem.Challenge.pw_eitherslack_k02_sums_and_products.main.body.getD i (.Pass ⟨0, 0, 0, 0⟩)
-- 0 __name__ = 'eitherslack.errors'
-- 1 class SlackError []
-- 2 class NoNumber ['__init__']
-- 3 __name__ = 'eitherslack.numbers'
-- 4 NOUGHT = (0, 1)
-- 5 divisor(one, other) dflt []
-- 6 lowest(top, bottom) dflt ['1']
-- 7 plus(one, other) dflt []
-- 8 product(one, other) dflt []
-- 9 below(one, other) dflt []
-- 10 total(numbers) dflt []
-- 11 __name__ = 'law_eitherslack_k02_sums_and_products'
-- 12 _law_mixed(_law_cell, _law_k) dflt []
-- 13 _law_pile(_law_script, _law_k) dflt []
-- 14 _law_take(_law_pile_here, _law_many) dflt []
-- 15 _law_lowest(_law_top, _law_bottom) dflt []
-- 16 _law_number(_law_pile_here) dflt []
-- 17 _law_plus(_law_my_one, _law_my_other) dflt []
-- 18 _law_is(_law_found, _law_top, _law_bottom) dflt []
-- 19 _law_great() dflt []
-- 20 law(_law_script) dflt []
section
variable {P : Program} {w : World} {K : PySem.W.Frag} {mg : Str → Option Value} {base : Heap}
def F__law_lowest : List D → (D → Prop) → Prop := fun ds k => ∃ p q : Int, ds = [.int p, .int q] ∧ (0 < q ∧ q.natAbs < 2 ^ 8990) ∧ k (fr (lowQ p q))
theorem ok__law_lowest {f : Addr} {fd : FuncData} (Fn : FunD K "_law_lowest" "_law_lowest" (defArgs s__law_lowest) (defBody s__law_lowest) (defScope s__law_lowest) [] [] f fd) : FnOk P w K mg base CX0 1 f fd p__law_lowest (spP K F__law_lowest) := by
  refine fun_okP Fn sc__law_lowest (fun ds q ⟨_, _, e, _⟩ => by rw [e]; rfl) fun cdv A outer s H E hr ds k hF => ?_
  obtain ⟨p, q, rfl, ⟨hq, hb⟩, hk⟩ := hF
  have nd := sc__law_lowest.nd
  have hg := gcd_pos (p := p) hq
  have d2 : (Int.gcd p q : Int) ∣ q := Int.gcd_dvd_right ..
  refine sv_cons (sPar 2 3 nd <| av_cons <| nm 0 <| av_cons <| nm 1 <| av_nil ⟨_, _, rfl, rfl, rfl, rfl, ?_⟩)
  refine sv_norm (ss' := [.par (.int p), .par (.int q), .own (.int p), .own (.int q)]) (by rfl) ?_
  refine sv_cons (s1_while (fun n s => ∃ o t : Int, s = [.par (.int p), .par (.int q), .own (.int o), .own (.int t)] ∧ Int.gcd o t = Int.gcd p q ∧ 0 ≤ t ∧ (t = 0 → 0 < o) ∧ t.natAbs = n) (by exact PassesOwn.never) ⟨_, p, q, rfl, rfl, by omega, by omega, rfl⟩ ?_)
  rintro n s ⟨o, t, rfl, hgt, ht, ho, rfl⟩
  refine tNe <| nm 3 <| ev_int ⟨fun e => ?_, fun e => ?_⟩
  · have t0 : t ≠ 0 := by simpa using e
    refine sv_one <| sPar 2 3 nd <| av_cons <| nm 3 <| av_cons <| eMod <| nm 2 <| nm 3 ⟨by omega, av_nil ⟨_, _, rfl, rfl, rfl, rfl, ⟨_, ?_, _, _, rfl, ?_, Int.emod_nonneg _ t0, fun _ => by omega, rfl⟩⟩⟩
    · have := Int.emod_lt_of_pos o (b := t) (by omega)
      have := Int.emod_nonneg o t0
      omega
    · rw [gcd_emod _ (by omega)]; exact hgt
  · have e0 : t = 0 := by simpa using e
    subst e0
    have eo : (Int.gcd p q : Int) = o := by
      rw [← hgt, gcd_zero, if_neg (by have := ho rfl; omega)]
    rw [← eo]
    have hgb : (Int.gcd p q : Int).natAbs < 2 ^ 8990 := Nat.lt_of_le_of_lt (Nat.le_of_dvd (by omega) (Int.natAbs_dvd_natAbs.mpr d2)) hb
    refine sv_one (s1_ret <| dTup <| av_cons <| eDiv <| nm 0 <| nm 2 ⟨cdiv 8990 hg hgb (by decide) (by decide), av_cons <| eDiv <| nm 1 <| nm 2 ⟨cdiv 8990 hg hgb (by decide) (by decide), av_nil ⟨rfl, _, rfl, hk⟩⟩⟩)
def F__law_number : D → List D → (D → D → Prop) → Prop := fun d0 ds k => ∃ (n : Nat), ds = [] ∧ (Pile n d0 ∧ n ≤ 2 ^ 50) ∧ ∀ d' x, Pile (n + 5) d' → Nb 40 x → k d' (fr x)
theorem ok__law_number {f : Addr} {fd : FuncData} (Fn : FunD K "_law_number" "_law_number" (defArgs s__law_number) (defBody s__law_number) (defScope s__law_number) [] [] f fd) {f1 : Addr} {fd1 : FuncData} (C : DefI P w K mg base CX0 2 "_law_take" p__law_take f1 fd1 [] F__law_take)
    {f2 : Addr} {fd2 : FuncData} (L : DefAt P w K mg base CX0 1 "_law_lowest" p__law_lowest f2 fd2 [] F__law_lowest) : FnOk P w K mg base CX0 3 f fd p__law_number (spI K F__law_number) := by
  refine fun_okI Fn sc__law_number (fun d0 ds q ⟨_, e, _⟩ => by rw [e]; rfl) fun cdv A outer s H E hr d0 ds k hF => ?_
  obtain ⟨n, rfl, ⟨hp, hn⟩, hk⟩ := hF
  have nd := sc__law_number.nd
  have big : (2 ^ 60 : Nat) = 1152921504606846976 := by decide +kernel
  have big2 : (2 ^ 50 : Nat) = 1125899906842624 := by decide +kernel
  have e5 : (10 : Int) ^ (5 : Int).toNat = 100000 := by decide +kernel
  have e6 : (10 : Int) ^ (6 : Int).toNat = 1000000 := by decide +kernel
  refine sv_cons (sSet 1 nd <| cCallI C 0 hr (by decide) <| av_cons <| ev_int <| av_nil ⟨_, rfl, rfl, n, 12, rfl, ⟨hp, by decide, by decide, by omega⟩, fun d1 r1 hp1 h1 h1' => ⟨rfl, rfl, ?_⟩⟩)
  refine sv_norm (ss' := [.own d1, .own (.int r1), .no]) (by rfl) ?_
  refine sv_cons (s1_if <| tEq <| nm 1 <| ev_int ⟨fun _ => ?_, fun _ => sv_nil ?_⟩)
  · refine sv_cons (sSet 2 nd <| eAdd <| eMul <| cCallI C 0 hr (by decide) <| av_cons <| ePow <| ev_int <| ev_int ⟨⟨by decide, by decide, by decide⟩, av_nil ⟨_, rfl, rfl, n + 1, _, rfl, ⟨hp1, ?_, ?_, by omega⟩, fun d2 r2 hp2 h2 h2' => ePow <| ev_int <| ev_int ⟨⟨by decide, by decide, by decide⟩, ?_⟩⟩⟩)
    · decide
    · decide
    rw [e5] at h2'
    rw [e6]
    refine ⟨cmul 40 40 (by omega) (by decide) (by decide) (by decide) (by decide), cCallI C 0 hr (by decide) <| av_cons <| ePow <| ev_int <| ev_int ⟨⟨by decide, by decide, by decide⟩, av_nil ⟨_, rfl, rfl, n + 2, _, rfl, ⟨hp2, by decide, by decide, by omega⟩, fun d3 r3 hp3 h3 h3' => ⟨rfl, rfl, ?_⟩⟩⟩⟩
    rw [e6] at h3'
    refine sv_norm (ss' := [.own d3, .own (.int r1), .own (.int (r2 * 1000000 + r3))]) (by rfl) ?_
    refine sv_one (s1_ret <| cCall L hr (by decide) <| av_cons <| eIx <| dLst <| av_cons <| nm 2 <| av_cons <| eNeg <| nm 2 <| av_nil ⟨rfl, cCallI C 0 hr (by decide) <| av_cons <| ev_int <| av_nil ⟨_, rfl, rfl, n + 3, _, rfl, ⟨hp3, by decide, by decide, by omega⟩, fun d4 r4 hp4 h4 h4' => ⟨_, atI_b h4 h4', rfl, av_cons <| eAdd <| ev_int <| cCallI C 0 hr (by decide) <| av_cons <| ePow <| ev_int <| ev_int ⟨⟨by decide, by decide, by decide⟩, av_nil ⟨_, rfl, rfl, n + 4, _, rfl, ⟨hp4, by decide, by decide, by omega⟩, fun d5 r5 hp5 h5 h5' => av_nil ⟨_, _, rfl, ?_⟩⟩⟩⟩⟩⟩)
    rw [e6] at h5'
    refine ⟨⟨by omega, lt_up (a := 40) (by omega) (by decide)⟩, _, _, rfl, rfl, hk _ _ (hp5.up (by omega)) (lowQ_nb (by omega) ?_ (by omega))⟩
    split <;> omega
  refine sv_cons (s1_if <| tGt <| nm 1 <| ev_int ⟨fun _ => ?_, fun _ => sv_nil ?_⟩)
  · refine sv_one (s1_ret <| cCall L hr (by decide) <| av_cons <| eSub <| cCallI C 0 hr (by decide) <| av_cons <| ev_int <| av_nil ⟨_, rfl, rfl, n + 1, _, rfl, ⟨hp1, by decide, by decide, by omega⟩, fun d2 r2 hp2 h2 h2' => ev_int <| av_cons <| eAdd <| ev_int <| cCallI C 0 hr (by decide) <| av_cons <| ev_int <| av_nil ⟨_, rfl, rfl, n + 2, _, rfl, ⟨hp2, by decide, by decide, by omega⟩, fun d3 r3 hp3 h3 h3' => av_nil ⟨_, _, rfl, ⟨by omega, lt_up (a := 40) (by omega) (by decide)⟩, _, _, rfl, rfl, hk _ _ (hp3.up (by omega)) (lowQ_nb (by omega) (by omega) (by omega))⟩⟩⟩)
  · refine sv_one (s1_ret <| dTup <| av_cons <| eSub <| cCallI C 0 hr (by decide) <| av_cons <| ev_int <| av_nil ⟨_, rfl, rfl, n + 1, _, rfl, ⟨hp1, by decide, by decide, by omega⟩, fun d2 r2 hp2 h2 h2' => ev_int <| av_cons <| ev_int <| av_nil ⟨rfl, _, _, rfl, rfl, hk _ (r2 - 4, 1) (hp2.up (by omega)) (nb_int (by omega) (by decide))⟩⟩)
def F__law_plus : List D → (D → Prop) → Prop := fun ds k => ∃ (a b : Int × Int) (m : Nat), ds = [fr a, fr b] ∧ (Sp m a ∧ Sp m b ∧ m ≤ 4400) ∧ k (fr (plusQ a b))
theorem ok__law_plus {f : Addr} {fd : FuncData} (Fn : FunD K "_law_plus" "_law_plus" (defArgs s__law_plus) (defBody s__law_plus) (defScope s__law_plus) [] [] f fd) {f1 : Addr} {fd1 : FuncData} (C : DefAt P w K mg base CX0 1 "_law_lowest" p__law_lowest f1 fd1 [] F__law_lowest) : FnOk P w K mg base CX0 2 f fd p__law_plus (spP K F__law_plus) := by
  refine fun_okP Fn sc__law_plus (fun ds q ⟨_, _, _, e, _⟩ => by rw [e]; rfl) fun cdv A outer s H E hr ds k hF => ?_
  obtain ⟨a, b, m, rfl, ⟨ha, hb, hm⟩, hk⟩ := hF
  have nd := sc__law_plus.nd
  have h1 := fun {x y : Int} (h1 : x.natAbs < 2 ^ m) (h2 : y.natAbs < 2 ^ m) => cmul (m + 1) (m + 1) (lt_up h1 (Nat.le_succ m)) (lt_up h2 (Nat.le_succ m)) (Nat.succ_pos _) (Nat.succ_pos _) (by omega)
  refine sv_one (s1_ret <| cCall C hr (by decide) <| av_cons <| eAdd <| eMul <| eIx <| nm 0 <| ev_int ⟨_, rfl, rfl, eIx <| nm 1 <| ev_int ⟨_, rfl, rfl, h1 ha.top hb.bot, eMul <| eIx <| nm 1 <| ev_int ⟨_, rfl, rfl, eIx <| nm 0 <| ev_int ⟨_, rfl, rfl, h1 hb.top ha.bot, av_cons <| eMul <| eIx <| nm 0 <| ev_int ⟨_, rfl, rfl, eIx <| nm 1 <| ev_int ⟨_, rfl, rfl, h1 ha.bot hb.bot, av_nil ⟨_, _, rfl, ⟨Int.mul_pos ha.pos hb.pos, lt_up (lt_mul ha.bot hb.bot) (by omega)⟩, _, rfl, hk⟩⟩⟩⟩⟩⟩⟩)
def F__law_is : List D → (D → Prop) → Prop := fun ds k => ∃ (x : Int × Int) (p q : Int), ds = [fr x, .int p, .int q] ∧ (x = lowQ p q ∧ 0 < q ∧ q.natAbs < 2 ^ 8990) ∧ k (.bl true)
theorem ok__law_is {f : Addr} {fd : FuncData} (Fn : FunD K "_law_is" "_law_is" (defArgs s__law_is) (defBody s__law_is) (defScope s__law_is) [] [] f fd) (T : Txt mg) {f1 : Addr} {fd1 : FuncData} (C : DefAt P w K mg base CX0 1 "_law_lowest" p__law_lowest f1 fd1 [] F__law_lowest) : FnOk P w K mg base CX0 2 f fd p__law_is (spP K F__law_is) := by
  refine fun_okP Fn sc__law_is (fun ds q ⟨_, _, _, e, _⟩ => by rw [e]; rfl) fun cdv A outer s H E hr ds k hF => ?_
  obtain ⟨_, p, q, rfl, ⟨rfl, hq⟩, hk⟩ := hF
  have nd := sc__law_is.nd
  have hu := hr.units
  refine sv_cons (s1_if <| tv_w <| wv_or <| tv_not <| tVal <| eIsi "tuple" true T.isi T.tuple <| nm 0 ⟨_, rfl, by decide +kernel, fun z => (nomatch z), fun _ => wv_or <| tNe <| eLen rfl T.len <| nm 0 <| ev_int ⟨fun z => (nomatch z), fun _ => wv_or <| tVal <| eIsi "bool" false T.isi T.bool <| eIx <| nm 0 <| ev_int ⟨_, rfl, rfl, _, rfl, by decide +kernel, fun z => (nomatch z), fun _ => wv_or1 <| tVal <| eIsi "bool" false T.isi T.bool <| eIx <| nm 0 <| ev_int ⟨_, rfl, rfl, _, rfl, by decide +kernel, fun z => (nomatch z), fun _ => sv_nil ?_⟩⟩⟩⟩)
  refine sv_one (s1_ret <| eAnd <| eIsi "int" true T.isi T.int <| eIx <| nm 0 <| ev_int ⟨_, rfl, rfl, _, rfl, by decide +kernel, fun _ => eAnd <| eIsi "int" true T.isi T.int <| eIx <| nm 0 <| ev_int ⟨_, rfl, rfl, _, rfl, by decide +kernel, fun _ => ev_one <| eEqP hu <| nm 0 <| cCall C hr (by decide) <| av_cons <| nm 1 <| av_cons <| nm 2 <| av_nil ⟨_, _, rfl, hq, rfl, rfl, ?_⟩, fun z => (nomatch z)⟩, fun z => (nomatch z)⟩)
  rw [deq_self]
  exact ⟨_, rfl, hk⟩
end
end K02
namespace K02
open PySem PySem.Spec PyProof.Rows L2 DL
def top1 (i : Nat) : Stmt := PySem.Challenge.pw_eitherslack_k02_sums_and_products.main.body.getD i (.Pass ⟨0, 0, 0, 0⟩)
-- 0 __name__ = 'eitherslack.errors'
-- 1 class SlackError []
-- 2 class NoNumber ['__init__']
-- 3 __name__ = 'eitherslack.numbers'
-- 4 NOUGHT = (0, 1)
-- 5 divisor(one, other) dflt []
-- 6 lowest(top, bottom) dflt ['1']
-- 7 plus(one, other) dflt []
-- 8 product(one, other) dflt []
-- 9 below(one, other) dflt []
-- 10 total(numbers) dflt []
-- 11 __name__ = 'law_eitherslack_k02_sums_and_products'
-- 12 _law_mixed(_law_cell, _law_k) dflt []
-- 13 _law_pile(_law_script, _law_k) dflt []
-- 14 _law_take(_law_pile_here, _law_many) dflt []
-- 15 _law_lowest(_law_top, _law_bottom) dflt []
-- 16 _law_number(_law_pile_here) dflt []
-- 17 _law_plus(_law_my_one, _law_my_other) dflt []
-- 18 _law_is(_law_found, _law_top, _law_bottom) dflt []
-- 19 _law_great() dflt []
-- 20 law(_law_script) dflt []
section
variable {P : Program} {w : World} {K : PySem.W.Frag} {mg : Str → Option Value} {base : Heap}
theorem pow_bd {i : Nat} (h : i ≤ 15) : (((10 ^ 60) ^ i : Nat) : Int).natAbs < 2 ^ 3001 := by
  rw [Int.natAbs_natCast]
  have h1 : (10 ^ 60 : Nat) ≤ 2 ^ 200 := by decide +kernel
  refine Nat.lt_of_le_of_lt (Nat.pow_le_pow_left h1 i) ?_
  rw [← Nat.pow_mul]
  exact Nat.pow_lt_pow_right (by decide) (by omega)
def F__law_great : List D → (D → Prop) → Prop := fun ds k => ds = [] ∧ k (.bl true)
theorem ok__law_great {f : Addr} {fd : FuncData} (Fn : FunD K "_law_great" "_law_great" (defArgs s__law_great) (defBody s__law_great) (defScope s__law_great) [] [] f fd) (T : Txt mg) {f1 f2 f3 : Addr} {fd1 fd2 fd3 : FuncData}
    (B : DefAt P w K mg base CX0 1 "below" p_below f1 fd1 [] F_below) (M : DefAt P w K mg base CX0 3 "product" p_product f2 fd2 [] F_product) (S : DefAt P w K mg base CX0 4 "total" p_total f3 fd3 [] F_total) : FnOk P w K mg base CX0 5 f fd p__law_great (spP K F__law_great) := by
  refine fun_okP Fn sc__law_great (fun ds q ⟨e, _⟩ => by rw [e]; rfl) fun cdv A outer s H E hr ds k hF => ?_
  obtain ⟨rfl, hk⟩ := hF
  have nd := sc__law_great.nd
  have hu := hr.units
  refine sv_cons (sSet 0 nd <| ev_int ⟨rfl, rfl, ?_⟩)
  refine sv_norm (ss' := [.own (.int (((10 ^ 60) ^ 0 : Nat) : Int)), .no]) (by rfl) ?_
  refine sv_cons (sFor [1] <| wRange T.range <| ev_int ⟨by decide, fun i s => s = [.own (.int (((10 ^ 60) ^ i : Nat) : Int)), .no], rfl, ?_, ?_⟩)
  · rintro i el s hel rfl
    obtain ⟨hi, rfl⟩ := els_range hel
    have hi : i < 15 := hi
    have e60 : (10 : Int) ^ (60 : Int).toNat = ((10 ^ 60 : Nat) : Int) := by decide +kernel
    refine gOne 1 nd <| sv_cons <| sSet 0 nd <| eMul <| nm 0 <| ePow <| ev_int <| ev_int ⟨⟨by decide, by decide, by decide⟩, ?_⟩
    rw [e60]
    refine ⟨cmul 3001 200 (pow_bd (by omega)) (by decide +kernel) (by decide) (by decide) (by decide), rfl, rfl, ?_⟩
    refine sv_forget [1] (sv_nil ?_)
    show (_ : List Slot) = _
    rw [← Int.natCast_mul, ← Nat.pow_succ]
    rfl
  rintro s rfl
  rw [len_range]
  have hfp : (0 : Int) < (((10 ^ 60) ^ (15 : Int).toNat : Nat) : Int) := Int.natCast_pos.mpr (Nat.pow_pos (by decide))
  have hfb : (((10 ^ 60) ^ (15 : Int).toNat : Nat) : Int).natAbs < 2 ^ 3001 := pow_bd (Nat.le_refl 15)
  have hev : (((10 ^ 60) ^ (15 : Int).toNat : Nat) : Int) % 2 = 0 := by decide +kernel
  generalize (((10 ^ 60) ^ (15 : Int).toNat : Nat) : Int) = far at hfp hfb hev ⊢
  refine sv_norm (ss' := [.own (.int far), .no]) (by rfl) ?_
  have p1 : Sp 3002 ((1 : Int), (1 : Int)) := ⟨Int.one_pos, lt_up (a := 1) (by decide) (by decide), lt_up (a := 1) (by decide) (by decide)⟩
  have hfb2 := lt_up hfb (show 3001 ≤ 3002 by decide)
  have p2 : Sp 3002 (far - 1, far) := ⟨hfp, Nat.lt_of_le_of_lt (by show (far - 1).natAbs ≤ far.natAbs; omega) hfb2, hfb2⟩
  have p3 : Sp 3002 (far, 1) := ⟨Int.one_pos, hfb2, lt_up (a := 1) (show (1 : Int).natAbs < 2 ^ 1 by decide) (by decide)⟩
  have p4 : Sp 3002 (-far, 1) := ⟨Int.one_pos, by show (-far).natAbs < _; rw [Int.natAbs_neg]; exact hfb2, lt_up (a := 1) (show (1 : Int).natAbs < 2 ^ 1 by decide) (by decide)⟩
  have b1 : decide ((far - 1, far).1 * ((1 : Int), (1 : Int)).2 < ((1 : Int), (1 : Int)).1 * (far - 1, far).2) = true := decide_eq_true (by show (far - 1) * 1 < 1 * far; omega)
  have b2 : decide (((1 : Int), (1 : Int)).1 * (far - 1, far).2 < (far - 1, far).1 * ((1 : Int), (1 : Int)).2) = false := decide_eq_false (by show ¬ 1 * far < (far - 1) * 1; omega)
  have b3 : decide ((-far, (1 : Int)).1 * (far, (1 : Int)).2 < (far, (1 : Int)).1 * (-far, (1 : Int)).2) = true := decide_eq_true (by show -far * 1 < far * 1; omega)
  have b4 : decide ((far, (1 : Int)).1 * (-far, (1 : Int)).2 < (-far, (1 : Int)).1 * (far, (1 : Int)).2) = false := decide_eq_false (by show ¬ far * 1 < -far * 1; omega)
  refine sv_cons <| s1_if <| tv_w <| wv_or <| tNotB <| cCall B hr (by decide) <| av_cons <| dTup <| av_cons <| eSub <| nm 0 <| ev_int <| av_cons <| nm 0 <| av_nil ⟨rfl, av_cons <| dTup <| av_cons <| ev_int <| av_cons <| ev_int <| av_nil ⟨rfl, av_nil ⟨(far - 1, far), (1, 1), 3002, rfl, ⟨p2, p1, by decide⟩, ev_bl ?_⟩⟩⟩
  rw [b1]
  refine ⟨fun z => (nomatch z), fun _ => wv_or1 <| tNotB <| cCall B hr (by decide) <| av_cons <| dTup <| av_cons <| ev_int <| av_cons <| ev_int <| av_nil ⟨rfl, av_cons <| dTup <| av_cons <| eSub <| nm 0 <| ev_int <| av_cons <| nm 0 <| av_nil ⟨rfl, av_nil ⟨(1, 1), (far - 1, far), 3002, rfl, ⟨p1, p2, by decide⟩, ev_bl ?_⟩⟩⟩⟩
  rw [b2]
  refine ⟨fun z => (nomatch z), fun _ => sv_nil ?_⟩
  refine sv_cons <| s1_if <| tv_w <| wv_or <| tNotB <| cCall B hr (by decide) <| av_cons <| dTup <| av_cons <| eNeg <| nm 0 <| av_cons <| ev_int <| av_nil ⟨rfl, av_cons <| dTup <| av_cons <| nm 0 <| av_cons <| ev_int <| av_nil ⟨rfl, av_nil ⟨(-far, 1), (far, 1), 3002, rfl, ⟨p4, p3, by decide⟩, ev_bl ?_⟩⟩⟩
  rw [b3]
  refine ⟨fun z => (nomatch z), fun _ => wv_or1 <| tNotB <| cCall B hr (by decide) <| av_cons <| dTup <| av_cons <| nm 0 <| av_cons <| ev_int <| av_nil ⟨rfl, av_cons <| dTup <| av_cons <| eNeg <| nm 0 <| av_cons <| ev_int <| av_nil ⟨rfl, av_nil ⟨(far, 1), (-far, 1), 3002, rfl, ⟨p3, p4, by decide⟩, ev_bl ?_⟩⟩⟩⟩
  rw [b4]
  refine ⟨fun z => (nomatch z), fun _ => sv_nil ?_⟩
  have s7 : Sp 3100 (far, (7 : Int)) := ⟨show (0 : Int) < 7 by decide, lt_up hfb (by decide), lt_up (a := 10) (show (7 : Int).natAbs < 2 ^ 10 by decide) (by decide)⟩
  have s21 : Sp 3100 ((21 : Int), far) := ⟨hfp, lt_up (a := 10) (show (21 : Int).natAbs < 2 ^ 10 by decide) (by decide), lt_up hfb (by decide)⟩
  have t1 : timesQ (far, 7) (21, far) = (3, 1) := by
    unfold timesQ lowQ
    have e : far * 21 = 3 * (7 * far) := by omega
    have h7 : 0 < 7 * far := by omega
    show (far * 21 / (Int.gcd (far * 21) (7 * far) : Int), 7 * far / (Int.gcd (far * 21) (7 * far) : Int)) = (3, 1)
    rw [gcd_dvd h7 (by rw [e, Int.mul_emod_left]), e, Int.mul_ediv_cancel _ (by omega), Int.ediv_self (by omega)]
  refine sv_one <| s1_ret <| eAnd <| eEqP hu <| cCall M hr (by decide) <| av_cons <| dTup <| av_cons <| nm 0 <| av_cons <| ev_int <| av_nil ⟨rfl, av_cons <| dTup <| av_cons <| ev_int <| av_cons <| nm 0 <| av_nil ⟨rfl, av_nil ⟨(far, 7), (21, far), 3100, rfl, ⟨s7, s21, by decide⟩, dTup <| av_cons <| ev_int <| av_cons <| ev_int <| av_nil ⟨rfl, rfl, rfl, ?_⟩⟩⟩⟩
  rw [t1, show deq (fr (3, 1)) (D.tup [.int 3, .int 1]) = true from deq_self]
  refine ⟨fun _ => ?_, fun z => (nomatch z)⟩
  have n1 : Nb 3001 (far, 1) := nb_int hfb (by decide)
  have c1 : plusQ (0, 1) (far, 1) = (far, 1) := plusQ_zero n1
  have c2 : plusQ (far, 1) (1, 2) = (far * 2 + 1, 2) := by
    have e : (far * 2 + 1, (2 : Int)) = ((far * 2 + 1, (2 : Int)).1, (far * 2 + 1, (2 : Int)).2) := rfl
    unfold plusQ
    show lowQ (far * 2 + 1 * 1) (1 * 2) = _
    have g : Int.gcd (far * 2 + 1) 2 = 1 := by
      rw [Int.gcd_comm, ← gcd_emod' (far * 2 + 1) (by decide : (0 : Int) < 2)]
      have : (far * 2 + 1) % 2 = 1 := by omega
      rw [this]
      rfl
    unfold lowQ
    show ((far * 2 + 1) / (Int.gcd (far * 2 + 1) 2 : Int), 2 / (Int.gcd (far * 2 + 1) 2 : Int)) = _
    rw [g]
    simp
  have c3 : plusQ (far * 2 + 1, 2) (-far, 1) = (1, 2) := by
    unfold plusQ
    show lowQ ((far * 2 + 1) * 1 + -far * 2) (2 * 1) = _
    rw [show (far * 2 + 1) * 1 + -far * 2 = 1 by omega]
    decide +kernel
  refine ev_one <| eEqP hu <| cCall S hr (by decide) <| av_cons <| dLst <| av_cons <| dTup <| av_cons <| nm 0 <| av_cons <| ev_int <| av_nil ⟨rfl, av_cons <| dTup <| av_cons <| ev_int <| av_cons <| ev_int <| av_nil ⟨rfl, av_cons <| dTup <| av_cons <| eNeg <| nm 0 <| av_cons <| ev_int <| av_nil ⟨rfl, av_nil ⟨rfl, av_nil ⟨[(far, 1), (1, 2), (-far, 1)], 4000, rfl, ⟨?_, ?_, by decide⟩, dTup <| av_cons <| ev_int <| av_cons <| ev_int <| av_nil ⟨rfl, rfl, rfl, ?_⟩⟩⟩⟩⟩⟩
  · intro x hx
    simp only [List.mem_cons, List.not_mem_nil, or_false] at hx
    rcases hx with rfl | rfl | rfl
    · exact p3.up (by decide)
    · exact ⟨by decide +kernel, lt_up (a := 10) (by decide) (by decide), lt_up (a := 10) (by decide) (by decide)⟩
    · exact p4.up (by decide)
  · intro i hi
    have h3 : i < 3 := hi
    have hh : i = 0 ∨ i = 1 ∨ i = 2 := by omega
    rcases hh with rfl | rfl | rfl
    · show Sp 4000 (0, 1)
      exact ⟨by decide +kernel, lt_up (a := 10) (by decide) (by decide), lt_up (a := 10) (by decide) (by decide)⟩
    · show Sp 4000 (plusQ (0, 1) (far, 1))
      rw [c1]
      exact p3.up (by decide)
    · show Sp 4000 (plusQ (plusQ (0, 1) (far, 1)) (1, 2))
      rw [c1, c2]
      refine ⟨show (0 : Int) < 2 by decide, ?_, lt_up (a := 10) (show (2 : Int).natAbs < 2 ^ 10 by decide) (by decide)⟩
      refine lt_up (a := 3005) (lt_add (a := 3004) (lt_up (lt_mul hfb (show (2 : Int).natAbs < 2 ^ 2 by decide)) (by decide)) (lt_up (a := 1) (by decide) (by decide))) (by decide)
  · show ∃ d, Slot.own (D.bl (deq (fr (plusQ (plusQ (plusQ (0, 1) (far, 1)) (1, 2)) (-far, 1))) (.tup [.int 1, .int 2]))) = .own d ∧ k d
    rw [c1, c2, c3, show deq (fr (1, 2)) (D.tup [.int 1, .int 2]) = true from deq_self]
    exact ⟨_, rfl, hk⟩
theorem fold_nb {l : List (Int × Int)} (h : ∀ x ∈ l, Nb 40 x) : Nb (1 + 41 * l.length) (l.foldl plusQ (0, 1)) := by
  have go : ∀ (l : List (Int × Int)) (b : Nat) (z : Int × Int), Nb b z → (∀ x ∈ l, Nb 40 x) → Nb (b + 41 * l.length) (l.foldl plusQ z) := fun l => by
    induction l with
    | nil => exact fun b z hz _ => hz
    | cons x l ih =>
      intro b z hz hl
      have := ih _ _ (plusQ_nb hz (hl x List.mem_cons_self)) fun y hy => hl y (List.mem_cons_of_mem _ hy)
      refine this.up ?_
      rw [List.length_cons]
      omega
  exact go l 1 (0, 1) ⟨by decide, by decide, by decide, by decide⟩ h
theorem fold_sp {l : List (Int × Int)} (h : ∀ x ∈ l, Nb 40 x) (hl : l.length ≤ 8) : Sp 4400 (l.foldl plusQ (0, 1)) := (fold_nb h).sp.up (by omega)
def FLaw : List D → (D → Prop) → Prop := fun ds k => ∃ ns : List Int, ns.length ≤ 63 ∧ ds = [.fz (ns.map D.int)] ∧ k (.bl true)
theorem sp_of {l : List (Int × Int)} (h : ∀ x ∈ l, Nb 40 x) (hl : l.length ≤ 8) : (∀ x ∈ l, Sp 4400 x) ∧ (∀ i, i < l.length → Sp 4400 ((l.take i).foldl plusQ (0, 1))) ∧ 4400 ≤ 4400 :=
  ⟨fun x hx => (h x hx).sp.up (by decide), fun i hi => fold_sp (fun x hx => h x (List.mem_of_mem_take hx)) (by rw [List.length_take]; omega), by decide⟩
set_option maxHeartbeats 0 in
theorem ok_law {f : Addr} {fd : FuncData} (Fn : FunD K "law" "law" (defArgs s_law) (defBody s_law) (defScope s_law) [] [] f fd) (T : Txt mg) {f1 f2 f3 f4 f5 f6 f7 f8 f9 f10 : Addr} {fd1 fd2 fd3 fd4 fd5 fd6 fd7 fd8 fd9 fd10 : FuncData}
    (B : DefAt P w K mg base CX0 1 "below" p_below f1 fd1 [] F_below) (M : DefAt P w K mg base CX0 3 "product" p_product f2 fd2 [] F_product) (S : DefAt P w K mg base CX0 4 "total" p_total f3 fd3 [] F_total)
    (Pl : DefAt P w K mg base CX0 1 "_law_pile" p__law_pile f4 fd4 [] F__law_pile) (Tk : DefI P w K mg base CX0 2 "_law_take" p__law_take f5 fd5 [] F__law_take) (Nu : DefI P w K mg base CX0 3 "_law_number" p__law_number f6 fd6 [] F__law_number)
    (Lo : DefAt P w K mg base CX0 1 "_law_lowest" p__law_lowest f7 fd7 [] F__law_lowest) (Pu : DefAt P w K mg base CX0 2 "_law_plus" p__law_plus f8 fd8 [] F__law_plus) (Is : DefAt P w K mg base CX0 2 "_law_is" p__law_is f9 fd9 [] F__law_is)
    (Gr : DefAt P w K mg base CX0 5 "_law_great" p__law_great f10 fd10 [] F__law_great)
    (KS : DefK P w K mg base CX0 4 "total" p_total f3 fd3 0 ["numbers"] [0] [] F_total) (KM : DefK P w K mg base CX0 3 "product" p_product f2 fd2 0 ["other", "one"] [1, 0] [] F_product) (KB : DefK P w K mg base CX0 1 "below" p_below f1 fd1 0 ["other", "one"] [1, 0] [] F_below) :
    FnOk P w K mg base CX0 6 f fd p_law (spP K FLaw) := by
  refine fun_okP Fn sc_law (fun ds q ⟨n, _, e, _⟩ => by rw [e]; rfl) fun cdv A outer s H E hr ds k hF => ?_
  obtain ⟨ns, hl, rfl, hk⟩ := hF
  have nd := sc_law.nd
  have hu := hr.units
  have big2 : (2 ^ 50 : Nat) = 1125899906842624 := by decide +kernel
  refine sv_cons (sFor [1] <| wRange T.range <| ev_int ⟨by decide, fun i s => s = .par (.fz (ns.map D.int)) :: List.replicate 14 .no, rfl, ?_, ?_⟩)
  · rintro i el s hel rfl
    obtain ⟨hi, rfl⟩ := els_range hel
    have hi : i < 40 := hi
    refine gOne 1 nd ?_
    refine sv_cons (sSet 2 nd <| cCall Pl hr (by decide) <| av_cons <| nm 0 <| av_cons <| nm 1 <| av_nil ⟨ns, i, rfl, by omega, fun d hp => ⟨rfl, rfl, ?_⟩⟩)
    refine sv_norm (ss' := [.par (.fz (ns.map D.int)), .own (.int i), .own d, .no, .no, .no, .no, .no, .no, .no, .no, .no, .no, .no, .no]) (by rfl) ?_
    refine sv_cons (sSetLc 3 [("_law_k", 14)] nd (blkOk_by (N := n_law) (sc := defScope s_law) (by decide +kernel)) <| wRange T.range <| cCallI Tk 2 hr (by decide) <| av_cons <| ev_int <| av_nil ⟨d, rfl, rfl, 10000, 7, rfl, ⟨hp, by decide, by decide, by decide +kernel⟩, fun d1 r hp1 h0 h1 => ⟨by omega, fun i' s acc => ∃ d l, Pile (10001 + 5 * i') d ∧ s = [.par (.fz (ns.map D.int)), .own (.int i), .own d, .no, .no, .no, .no, .no, .no, .no, .no, .no, .no, .no, .no] ∧ acc = l.map fr ∧ (∀ x ∈ l, Nb 40 x) ∧ l.length = i', ⟨d1, [], hp1, rfl, rfl, (fun _ z => nomatch z), rfl⟩, ?_, ?_⟩⟩)
    · rintro i' el s acc hel ⟨d, l, hp, rfl, rfl, hn, hll⟩ s0 H0 C cl fp
      obtain ⟨hi', rfl⟩ := els_range hel
      have hi7 : i' < 7 := by omega
      refine gOne 14 nd fun s0 H0 C cl fp => tsv_nil ⟨fun _ s0 H0 C cl fp => ?_, fun z => (nomatch z)⟩
      refine cCallI Nu 2 hr (by decide) <| av_nil ⟨d, rfl, rfl, _, rfl, ⟨hp, by omega⟩, fun d' x hp' hx => ⟨_, rfl, ?_, d', l ++ [x], hp', rfl, ?_, ?_, ?_⟩⟩
      · rw [List.length_map]; omega
      · rw [List.map_append]; rfl
      · intro y hy
        rcases List.mem_append.mp hy with hy | hy
        · exact hn y hy
        · rw [List.mem_singleton.mp hy]; exact hx
      · rw [List.length_append, hll]; rfl
    rintro s acc ⟨d2, l, hp2, rfl, rfl, hn, hll⟩
    rw [len_range] at hp2 hll
    have hl7 : l.length ≤ 7 := by omega
    refine ⟨rfl, rfl, ?_⟩
    refine sv_norm (ss' := [.par (.fz (ns.map D.int)), .own (.int i), .own d2, .own (.lst (l.map fr)), .no, .no, .no, .no, .no, .no, .no, .no, .no, .no, .no]) (by rfl) ?_
    have hxl : ∀ x0 ∈ l, Sp 4400 x0 := fun x0 h0 => (hn x0 h0).sp.up (by decide)
    have flat_l : ∀ l : List (Int × Int), D.flats (l.map fr) = true := fun l => by
      induction l with
      | nil => unfold D.flats; rfl
      | cons a l ih => rw [List.map_cons]; unfold D.flats; rw [ih]; rfl
    refine sv_cons (sPar 4 5 nd <| av_cons <| cCallI Nu 2 hr (by decide) <| av_nil ⟨d2, rfl, rfl, _, rfl, ⟨hp2, by omega⟩, fun d3 x hp3 hx => av_cons <| cCallI Nu 2 hr (by decide) <| av_nil ⟨d3, rfl, rfl, _, rfl, ⟨hp3, by omega⟩, fun d4 y hp4 hy => av_nil ⟨_, _, rfl, rfl, rfl, rfl, ?_⟩⟩⟩)
    refine sv_norm (ss' := [.par (.fz (ns.map D.int)), .own (.int i), .own d4, .own (.lst (l.map fr)), .own (fr x), .own (fr y), .no, .no, .no, .no, .no, .no, .no, .no, .no]) (by rfl) ?_
    have sx : Sp 4400 x := hx.sp.up (by decide)
    have sy : Sp 4400 y := hy.sp.up (by decide)
    refine sv_cons (sSet 6 nd <| dTup <| av_cons <| ev_int <| av_cons <| ev_int <| av_nil ⟨rfl, rfl, rfl, ?_⟩)
    refine sv_norm (ss' := [.par (.fz (ns.map D.int)), .own (.int i), .own d4, .own (.lst (l.map fr)), .own (fr x), .own (fr y), .own (fr ((l.take 0).foldl plusQ (0, 1))), .no, .no, .no, .no, .no, .no, .no, .no]) (by rfl) ?_
    refine sv_cons (sFor [7] <| wLst <| nm 3 ⟨_, rfl, flat_map fun _ => rfl, fun j s => s = [.par (.fz (ns.map D.int)), .own (.int i), .own d4, .own (.lst (l.map fr)), .own (fr x), .own (fr y), .own (fr ((l.take j).foldl plusQ (0, 1))), .no, .no, .no, .no, .no, .no, .no, .no], rfl, ?_, ?_⟩)
    · rintro j el s hel rfl
      obtain ⟨z, hz, rfl⟩ := els_get2 hel
      refine gOne 7 nd <| sv_cons <| sSet 6 nd <| cCall Pu hr (by decide) <| av_cons <| nm 6 <| av_cons <| nm 7 <| av_nil ⟨_, _, 4400, rfl, ⟨fold_sp (fun x hx => hn x (List.mem_of_mem_take hx)) (by rw [List.length_take]; omega), hxl z (List.mem_of_getElem? hz), Nat.le_refl _⟩, rfl, rfl, ?_⟩
      refine sv_forget [7] (sv_nil ?_)
      show (_ : List Slot) = _
      rw [take_next hz, List.foldl_append]
      rfl
    rintro s rfl
    rw [List.length_map, List.length_map, List.take_length]
    refine sv_norm (ss' := [.par (.fz (ns.map D.int)), .own (.int i), .own d4, .own (.lst (l.map fr)), .own (fr x), .own (fr y), .own (fr (l.foldl plusQ (0, 1))), .no, .no, .no, .no, .no, .no, .no, .no]) (by rfl) ?_
    have hd := fold_sp hn (by omega : l.length ≤ 8)
    refine sv_cons (sSet 8 nd <| eListOf T.list <| nm 3 ⟨flat_l l, rfl, rfl, ?_⟩)
    refine sv_norm (ss' := [.par (.fz (ns.map D.int)), .own (.int i), .own d4, .own (.lst (l.map fr)), .own (fr x), .own (fr y), .own (fr (l.foldl plusQ (0, 1))), .no, .own (.lst (l.map fr)), .no, .no, .no, .no, .no, .no]) (by rfl) ?_
    refine sv_cons (s1_if <| tv_w <| wv_or <| tv_not <| tVal <| cCall Is hr (by decide) <| av_cons <| cCall S hr (by decide) <| av_cons <| nm 8 <| av_nil ⟨l, 4400, rfl, sp_of hn (by omega), av_cons <| eIx <| nm 6 <| ev_int ⟨_, rfl, rfl, av_cons <| eIx <| nm 6 <| ev_int ⟨_, rfl, rfl, av_nil ⟨_, _, _, rfl, ⟨(lowQ_self (fold_nb hn)).symm, hd.pos, lt_up hd.bot (by decide)⟩, (fun z => nomatch z), fun _ => wv_or <| tNeP hu <| cCallK0 KS hr (by decide) <| kv_cons <| nm 8 <| kv_nil ⟨rfl, l, 4400, rfl, sp_of hn (by omega), nm 6 ⟨rfl, rfl, ?_⟩⟩⟩⟩⟩⟩)
    rw [deq_self]
    refine ⟨(fun z => nomatch z), fun _ => wv_or1 <| tNeP hu <| nm 8 <| nm 3 ⟨pl_lfr, pl_lfr, ?_⟩⟩
    rw [deq_self]
    refine ⟨(fun z => nomatch z), fun _ => sv_nil ?_⟩
    refine sv_cons (s1_expr (eApp 8 (nm 4 ⟨_, _, rfl, rfl, ?_, ?_⟩)))
    · rw [List.length_map]; omega
    refine sv_norm (ss' := [.par (.fz (ns.map D.int)), .own (.int i), .own d4, .own (.lst (l.map fr)), .own (fr x), .own (fr y), .own (fr (l.foldl plusQ (0, 1))), .no, .own (.lst ((l ++ [x]).map fr)), .no, .no, .no, .no, .no, .no]) (by rw [List.map_append]; rfl) ?_
    have hn2 : ∀ z ∈ l ++ [x], Nb 40 z := fun z hz => by
      rcases List.mem_append.mp hz with hz | hz
      · exact hn z hz
      · rw [List.mem_singleton.mp hz]; exact hx
    have hl2 : (l ++ [x]).length ≤ 8 := by rw [List.length_append, List.length_singleton]; omega
    refine sv_cons (sSet 6 nd <| cCall Pu hr (by decide) <| av_cons <| nm 6 <| av_cons <| nm 4 <| av_nil ⟨_, _, 4400, rfl, ⟨hd, sx, Nat.le_refl _⟩, rfl, rfl, ?_⟩)
    have ed : plusQ (l.foldl plusQ (0, 1)) x = (l ++ [x]).foldl plusQ (0, 1) := by rw [List.foldl_append]; rfl
    refine sv_norm (ss' := [.par (.fz (ns.map D.int)), .own (.int i), .own d4, .own (.lst (l.map fr)), .own (fr x), .own (fr y), .own (fr ((l ++ [x]).foldl plusQ (0, 1))), .no, .own (.lst ((l ++ [x]).map fr)), .no, .no, .no, .no, .no, .no]) (by rw [← ed]; rfl) ?_
    have hd2 := fold_sp hn2 hl2
    refine sv_cons (s1_if <| tv_not <| tVal <| cCall Is hr (by decide) <| av_cons <| cCall S hr (by decide) <| av_cons <| nm 8 <| av_nil ⟨l ++ [x], 4400, rfl, sp_of hn2 hl2, av_cons <| eIx <| nm 6 <| ev_int ⟨_, rfl, rfl, av_cons <| eIx <| nm 6 <| ev_int ⟨_, rfl, rfl, av_nil ⟨_, _, _, rfl, ⟨(lowQ_self (fold_nb hn2)).symm, hd2.pos, lt_up hd2.bot (by decide)⟩, (fun z => nomatch z), fun _ => sv_nil ?_⟩⟩⟩⟩)
    have c1 := fun {a b : Int} (h1 : a.natAbs < 2 ^ 4400) (h2 : b.natAbs < 2 ^ 4400) => cmul 4400 4400 h1 h2 (by decide) (by decide) (by decide)
    refine sv_cons (s1_if <| tv_not <| tVal <| cCall Is hr (by decide) <| av_cons <| cCall M hr (by decide) <| av_cons <| nm 4 <| av_cons <| nm 5 <| av_nil ⟨x, y, 4400, rfl, ⟨sx, sy, Nat.le_refl _⟩, av_cons <| eMul <| eIx <| nm 4 <| ev_int ⟨_, rfl, rfl, eIx <| nm 5 <| ev_int ⟨_, rfl, rfl, c1 sx.top sy.top, av_cons <| eMul <| eIx <| nm 4 <| ev_int ⟨_, rfl, rfl, eIx <| nm 5 <| ev_int ⟨_, rfl, rfl, c1 sx.bot sy.bot, av_nil ⟨_, _, _, rfl, ⟨rfl, Int.mul_pos sx.pos sy.pos, lt_up (lt_mul sx.bot sy.bot) (by decide)⟩, (fun z => nomatch z), fun _ => sv_nil ?_⟩⟩⟩⟩⟩⟩)
    have h1 : ∀ z ∈ [x], Nb 40 z := fun z hz => by rw [List.mem_singleton.mp hz]; exact hx
    refine sv_cons (s1_if <| tv_w <| wv_or <| tNeP hu <| cCallK0 KM hr (by decide) <| kv_cons <| nm 4 <| kv_cons <| nm 5 <| kv_nil ⟨rfl, y, x, 4400, rfl, ⟨sy, sx, Nat.le_refl _⟩, cCall M hr (by decide) <| av_cons <| nm 4 <| av_cons <| nm 5 <| av_nil ⟨x, y, 4400, rfl, ⟨sx, sy, Nat.le_refl _⟩, rfl, rfl, ?_⟩⟩)
    rw [timesQ_comm, deq_self]
    refine ⟨(fun z => nomatch z), fun _ => wv_or1 <| tNeP hu <| cCall S hr (by decide) <| av_cons <| dLst <| av_cons <| nm 4 <| av_nil ⟨rfl, av_nil ⟨[x], 4400, rfl, sp_of h1 (show 1 ≤ 8 by decide), nm 4 ⟨rfl, rfl, ?_⟩⟩⟩⟩
    rw [show List.foldl plusQ (0, 1) [x] = x from plusQ_zero hx, deq_self]
    refine ⟨(fun z => nomatch z), fun _ => sv_nil ?_⟩
    have e40 : (10 : Int) ^ (40 : Int).toNat = 10000000000000000000000000000000000000000 := by decide +kernel
    have b40 : (10000000000000000000000000000000000000000 : Int).natAbs < 2 ^ 140 := by decide +kernel
    have p40 : CPow 10 40 := ⟨by decide, by decide, by decide⟩
    refine sv_cons (sSet 9 nd <| cCall Lo hr (by decide) <| av_cons <| eAdd <| eMul <| eIx <| nm 4 <| ev_int ⟨_, rfl, rfl, ePow <| ev_int <| ev_int ⟨p40, ?_⟩⟩)
    rw [e40]
    refine ⟨cmul 40 140 hx.top b40 (by decide) (by decide) (by decide), eIx <| nm 4 <| ev_int ⟨_, rfl, rfl, av_cons <| eMul <| eIx <| nm 4 <| ev_int ⟨_, rfl, rfl, ePow <| ev_int <| ev_int ⟨p40, ?_⟩⟩⟩⟩
    rw [e40]
    have q1 : 0 < x.2 * 10000000000000000000000000000000000000000 := Int.mul_pos hx.pos (by decide)
    have q2 := lt_mul hx.bot b40
    have q3 := lt_add (lt_mul hx.top b40) (lt_up hx.bot (show 40 ≤ 180 by decide))
    refine ⟨cmul 40 140 hx.bot b40 (by decide) (by decide) (by decide), av_nil ⟨_, _, rfl, ⟨q1, lt_up q2 (by decide)⟩, rfl, rfl, ?_⟩⟩
    have snear := (lowQ_nb q1 q3 (lt_up q2 (by decide))).sp.up (show 181 ≤ 4400 by decide)
    generalize lowQ (x.1 * 10000000000000000000000000000000000000000 + x.2) (x.2 * 10000000000000000000000000000000000000000) = near at snear
    refine sv_norm (ss' := [.par (.fz (ns.map D.int)), .own (.int i), .own d4, .own (.lst (l.map fr)), .own (fr x), .own (fr y), .own (fr ((l ++ [x]).foldl plusQ (0, 1))), .no, .own (.lst ((l ++ [x]).map fr)), .own (fr near), .no, .no, .no, .no, .no]) (by rfl) ?_
    refine sv_forget [3, 6, 8] ?_
    refine sv_norm (ss' := [.par (.fz (ns.map D.int)), .own (.int i), .own d4, .no, .own (fr x), .own (fr y), .no, .no, .no, .own (fr near), .no, .no, .no, .no, .no]) (by rfl) ?_
    refine sv_cons (sFor [10, 11] <| wLst <| dLst <| av_cons <| dTup <| av_cons <| nm 4 <| av_cons <| nm 5 <| av_nil ⟨rfl, av_cons <| dTup <| av_cons <| nm 5 <| av_cons <| nm 4 <| av_nil ⟨rfl, av_cons <| dTup <| av_cons <| nm 4 <| av_cons <| nm 4 <| av_nil ⟨rfl, av_cons <| dTup <| av_cons <| nm 4 <| av_cons <| nm 9 <| av_nil ⟨rfl, av_cons <| dTup <| av_cons <| nm 9 <| av_cons <| nm 4 <| av_nil ⟨rfl, av_nil ⟨rfl, [(x, y), (y, x), (x, x), (x, near), (near, x)].map (fun z => D.tup [fr z.1, fr z.2]), rfl, flat_map fun _ => rfl, fun j s => s = [.par (.fz (ns.map D.int)), .own (.int i), .own d4, .no, .own (fr x), .own (fr y), .no, .no, .no, .own (fr near), .no, .no, .no, .no, .no], rfl, ?_, ?_⟩⟩⟩⟩⟩⟩)
    · rintro j el s hel rfl
      obtain ⟨z, hz, rfl⟩ := els_get2 hel
      obtain ⟨sa, sb⟩ : Sp 4400 z.1 ∧ Sp 4400 z.2 := by
        have := List.mem_of_getElem? hz
        simp only [List.mem_cons, List.not_mem_nil, or_false] at this
        rcases this with rfl | rfl | rfl | rfl | rfl
        · exact ⟨sx, sy⟩
        · exact ⟨sy, sx⟩
        · exact ⟨sx, sx⟩
        · exact ⟨sx, snear⟩
        · exact ⟨snear, sx⟩
      obtain ⟨za, zb⟩ := z
      refine gv_tup rfl rfl <| gs_cons <| gOne 10 nd <| gs_cons <| gOne 11 nd <| gs_nil ?_
      refine sv_norm (ss' := [.par (.fz (ns.map D.int)), .own (.int i), .own d4, .no, .own (fr x), .own (fr y), .no, .no, .no, .own (fr near), .own (fr za), .own (fr zb), .no, .no, .no]) (by rfl) ?_
      refine sv_cons (sSet 12 nd <| eLt <| eMul <| eIx <| nm 10 <| ev_int ⟨_, rfl, rfl, eIx <| nm 11 <| ev_int ⟨_, rfl, rfl, c1 sa.top sb.bot, eMul <| eIx <| nm 11 <| ev_int ⟨_, rfl, rfl, eIx <| nm 10 <| ev_int ⟨_, rfl, rfl, c1 sb.top sa.bot, rfl, rfl, ?_⟩⟩⟩⟩)
      refine sv_norm (ss' := [.par (.fz (ns.map D.int)), .own (.int i), .own d4, .no, .own (fr x), .own (fr y), .no, .no, .no, .own (fr near), .own (fr za), .own (fr zb), .own (.bl (decide (za.1 * zb.2 < zb.1 * za.2))), .no, .no]) (by rfl) ?_
      refine sv_cons (sSet 13 nd <| cCall B hr (by decide) <| av_cons <| nm 10 <| av_cons <| nm 11 <| av_nil ⟨za, zb, 4400, rfl, ⟨sa, sb, Nat.le_refl _⟩, rfl, rfl, ?_⟩)
      obtain ⟨t, et⟩ : ∃ t, decide (za.1 * zb.2 < zb.1 * za.2) = t := ⟨_, rfl⟩
      refine sv_norm (ss' := [.par (.fz (ns.map D.int)), .own (.int i), .own d4, .no, .own (fr x), .own (fr y), .no, .no, .no, .own (fr near), .own (fr za), .own (fr zb), .own (.bl t), .own (.bl t), .no]) (by rw [← et]; rfl) ?_
      refine sv_cons (s1_if <| tv_w <| wv_or <| tv_not <| tVal <| eIsi "bool" true T.isi T.bool <| nm 13 ⟨_, rfl, by decide +kernel, (fun z => nomatch z), fun _ => wv_or <| tNe <| nm 13 <| nm 12 ⟨fun z => absurd z (by simp), fun _ => wv_or1 <| tNe <| cCallK0 KB hr (by decide) <| kv_cons <| nm 11 <| kv_cons <| nm 10 <| kv_nil ⟨rfl, za, zb, 4400, rfl, ⟨sa, sb, Nat.le_refl _⟩, nm 12 ⟨fun z => absurd z (by rw [et]; simp), fun _ => sv_nil (sv_forget [10, 11, 12, 13] (sv_nil rfl))⟩⟩⟩⟩)
    rintro s rfl
    refine sv_forget [1, 2, 4, 5, 9] (sv_nil rfl)
  · rintro s rfl
    refine sv_one <| s1_ret <| eAnd <| eEqP hu <| cCall S hr (by decide) <| av_cons <| dLst <| av_nil ⟨rfl, av_nil ⟨[], 4400, rfl, sp_of (fun _ z => nomatch z) (by decide), dTup <| av_cons <| ev_int <| av_cons <| ev_int <| av_nil ⟨rfl, rfl, rfl, ?_⟩⟩⟩
    rw [show deq (fr (List.foldl plusQ (0, 1) [])) (D.tup [.int 0, .int 1]) = true from deq_self]
    exact ⟨fun _ => ev_one <| cCall0 Gr hr (by decide) ⟨rfl, _, rfl, hk⟩, fun z => (nomatch z)⟩
end
end K02
set_option maxHeartbeats 0
namespace K02
open PySem PySem.Spec PyProof.Rows L2 DL
def d_divisor : He.DefD := ⟨("divisor", none), "divisor", "divisor", defArgs s_divisor, defBody s_divisor, defScope s_divisor, [], []⟩
def d_lowest : He.DefD := ⟨("lowest", none), "lowest", "lowest", defArgs s_lowest, defBody s_lowest, defScope s_lowest, [.int 1], []⟩
def d_plus : He.DefD := ⟨("plus", none), "plus", "plus", defArgs s_plus, defBody s_plus, defScope s_plus, [], []⟩
def d_product : He.DefD := ⟨("product", none), "product", "product", defArgs s_product, defBody s_product, defScope s_product, [], []⟩
def d_below : He.DefD := ⟨("below", none), "below", "below", defArgs s_below, defBody s_below, defScope s_below, [], []⟩
def d_total : He.DefD := ⟨("total", none), "total", "total", defArgs s_total, defBody s_total, defScope s_total, [], []⟩
def d__law_mixed : He.DefD := ⟨("_law_mixed", none), "_law_mixed", "_law_mixed", defArgs s__law_mixed, defBody s__law_mixed, defScope s__law_mixed, [], []⟩
def d__law_pile : He.DefD := ⟨("_law_pile", none), "_law_pile", "_law_pile", defArgs s__law_pile, defBody s__law_pile, defScope s__law_pile, [], []⟩
def d__law_take : He.DefD := ⟨("_law_take", none), "_law_take", "_law_take", defArgs s__law_take, defBody s__law_take, defScope s__law_take, [], []⟩
def d__law_lowest : He.DefD := ⟨("_law_lowest", none), "_law_lowest", "_law_lowest", defArgs s__law_lowest, defBody s__law_lowest, defScope s__law_lowest, [], []⟩
def d__law_number : He.DefD := ⟨("_law_number", none), "_law_number", "_law_number", defArgs s__law_number, defBody s__law_number, defScope s__law_number, [], []⟩
def d__law_plus : He.DefD := ⟨("_law_plus", none), "_law_plus", "_law_plus", defArgs s__law_plus, defBody s__law_plus, defScope s__law_plus, [], []⟩
def d__law_is : He.DefD := ⟨("_law_is", none), "_law_is", "_law_is", defArgs s__law_is, defBody s__law_is, defScope s__law_is, [], []⟩
def d__law_great : He.DefD := ⟨("_law_great", none), "_law_great", "_law_great", defArgs s__law_great, defBody s__law_great, defScope s__law_great, [], []⟩
def d_law : He.DefD := ⟨("law", none), "law", "law", defArgs s_law, defBody s_law, defScope s_law, [], []⟩
def fn : List He.DefD := [d_divisor, d_lowest, d_plus, d_product, d_below, d_total, d__law_mixed, d__law_pile, d__law_take, d__law_lowest, d__law_number, d__law_plus, d__law_is, d__law_great, d_law]
def tb : List (Str × List He.Dv) := [("NOUGHT", [.int 0, .int 1])]
def fa : List He.Fa := [.glo "divisor", .glo "lowest", .glo "plus", .glo "product", .glo "below", .glo "total", .glo "_law_mixed", .glo "_law_pile", .glo "_law_take", .glo "_law_lowest", .glo "_law_number", .glo "_law_plus", .glo "_law_is", .glo "_law_great", .glo "law", .free "len", .free "range", .free "str", .free "isinstance", .free "list", .free "sorted", .free "sum", .free "abs", .free "int", .free "bool", .free "tuple", .free "divmod", .free "zip", .free "enumerate", .free "max", .free "min", .free "any", .free "all", .free "ValueError"]
abbrev R : PySem.W.OpenRow := PySem.W.OpenLaw.row PySem.Challenge.rw_eitherslack_k02_sums_and_products
abbrev hk : PySem.W.Hook := hookT 4 tb fa fn
def ob (s : PySem.W.SharedT) : AlT := obsTG 4 tb fa fn (HandSHeadRun.getT s)
theorem ob_eq (s : PySem.W.SharedT) : ob s = hk.obs s.abs := obsTG_eq (HandSHeadRun.getT_eq s)
theorem run (w : World) : HandSHeadRun.RunEq R (PySem.W.view R.prog [20]) hk ob 3000 ["SlackError", "NoNumber", "NOUGHT", "divisor", "lowest", "plus", "product", "below", "total", "_law_mixed", "_law_pile", "_law_take", "_law_lowest", "_law_number", "_law_plus", "_law_is", "_law_great"] w := by
  intro os
  kernel_rfl
theorem facts {P : Program} {w : World} {K : PySem.W.Frag} {h : Heap} {mg : Str → Option Value} {f : Addr} (X : K.In h) (G : h.Ns mainGlobals mg) (hfa : mg ("law" : Str) = some (.ref f)) (cT : SaysT tb fa fn K) :
    ∃ fd : FuncData, (∀ (s : Shared) (v : Value), BindsTo s fd ⟨[v], []⟩ [("_law_script", v)]) ∧ ∀ base : Heap, K.In base → base.Ns mainGlobals mg → FnOk P w K mg base CX0 6 f fd ["_law_script"] (spP K FLaw) := by
  have c := cT.says
  obtain ⟨fd_divisor, FD_divisor⟩ := c.def_ 0 (d := d_divisor) rfl
  have g_divisor := He.glo_ok X G (c.fact 0 (f := .glo "divisor") rfl)
  obtain ⟨fd_lowest, FD_lowest⟩ := c.def_ 1 (d := d_lowest) rfl
  have g_lowest := He.glo_ok X G (c.fact 1 (f := .glo "lowest") rfl)
  obtain ⟨fd_plus, FD_plus⟩ := c.def_ 2 (d := d_plus) rfl
  have g_plus := He.glo_ok X G (c.fact 2 (f := .glo "plus") rfl)
  obtain ⟨fd_product, FD_product⟩ := c.def_ 3 (d := d_product) rfl
  have g_product := He.glo_ok X G (c.fact 3 (f := .glo "product") rfl)
  obtain ⟨fd_below, FD_below⟩ := c.def_ 4 (d := d_below) rfl
  have g_below := He.glo_ok X G (c.fact 4 (f := .glo "below") rfl)
  obtain ⟨fd_total, FD_total⟩ := c.def_ 5 (d := d_total) rfl
  have g_total := He.glo_ok X G (c.fact 5 (f := .glo "total") rfl)
  obtain ⟨fd__law_mixed, FD__law_mixed⟩ := c.def_ 6 (d := d__law_mixed) rfl
  have g__law_mixed := He.glo_ok X G (c.fact 6 (f := .glo "_law_mixed") rfl)
  obtain ⟨fd__law_pile, FD__law_pile⟩ := c.def_ 7 (d := d__law_pile) rfl
  have g__law_pile := He.glo_ok X G (c.fact 7 (f := .glo "_law_pile") rfl)
  obtain ⟨fd__law_take, FD__law_take⟩ := c.def_ 8 (d := d__law_take) rfl
  have g__law_take := He.glo_ok X G (c.fact 8 (f := .glo "_law_take") rfl)
  obtain ⟨fd__law_lowest, FD__law_lowest⟩ := c.def_ 9 (d := d__law_lowest) rfl
  have g__law_lowest := He.glo_ok X G (c.fact 9 (f := .glo "_law_lowest") rfl)
  obtain ⟨fd__law_number, FD__law_number⟩ := c.def_ 10 (d := d__law_number) rfl
  have g__law_number := He.glo_ok X G (c.fact 10 (f := .glo "_law_number") rfl)
  obtain ⟨fd__law_plus, FD__law_plus⟩ := c.def_ 11 (d := d__law_plus) rfl
  have g__law_plus := He.glo_ok X G (c.fact 11 (f := .glo "_law_plus") rfl)
  obtain ⟨fd__law_is, FD__law_is⟩ := c.def_ 12 (d := d__law_is) rfl
  have g__law_is := He.glo_ok X G (c.fact 12 (f := .glo "_law_is") rfl)
  obtain ⟨fd__law_great, FD__law_great⟩ := c.def_ 13 (d := d__law_great) rfl
  have g__law_great := He.glo_ok X G (c.fact 13 (f := .glo "_law_great") rfl)
  obtain ⟨fd_law, FD_law⟩ := c.def_ 14 (d := d_law) rfl
  have e := hfa.symm.trans (He.glo_ok X G (c.fact 14 (f := .glo "law") rfl))
  cases e
  have T : Txt mg := ⟨He.free_ok X G (c.fact 15 (f := .free "len") rfl), He.free_ok X G (c.fact 16 (f := .free "range") rfl), He.free_ok X G (c.fact 17 (f := .free "str") rfl), He.free_ok X G (c.fact 18 (f := .free "isinstance") rfl), He.free_ok X G (c.fact 19 (f := .free "list") rfl), He.free_ok X G (c.fact 20 (f := .free "sorted") rfl), He.free_ok X G (c.fact 21 (f := .free "sum") rfl), He.free_ok X G (c.fact 22 (f := .free "abs") rfl), He.free_ok X G (c.fact 23 (f := .free "int") rfl), He.free_ok X G (c.fact 24 (f := .free "bool") rfl), He.free_ok X G (c.fact 25 (f := .free "tuple") rfl), He.free_ok X G (c.fact 26 (f := .free "divmod") rfl), He.free_ok X G (c.fact 27 (f := .free "zip") rfl), He.free_ok X G (c.fact 28 (f := .free "enumerate") rfl), He.free_ok X G (c.fact 29 (f := .free "max") rfl), He.free_ok X G (c.fact 30 (f := .free "min") rfl), He.free_ok X G (c.fact 31 (f := .free "any") rfl), He.free_ok X G (c.fact 32 (f := .free "all") rfl), He.free_ok X G (c.fact 33 (f := .free "ValueError") rfl)⟩
  have b := FunD.bindsA (ps := ["_law_script"]) FD_law fun _ _ _ _ _ _ us hl => match us, hl with | [_], _ => rfl
  refine ⟨fd_law, fun s v => b s [v] rfl, fun base _ _ => ?_⟩
  have G_NOUGHT : GloD K mg "NOUGHT" (fr (0, 1)) := cT.fr X G 0
  have b_divisor := FunD.bindsN (ps := p_divisor) FD_divisor fun _ _ _ _ _ _ us hl => match us, hl with | [_, _], _ => rfl
  have D_divisor : DefAt P w K mg base CX0 1 "divisor" p_divisor _ fd_divisor [] F_divisor := ⟨ok_divisor FD_divisor T, g_divisor, FD_divisor.kp, [], [], b_divisor, .nil, fun H => reps_nil⟩
  have o_lowest := ok_lowest (w := w) (base := base) FD_lowest T D_divisor
  have D_lowest : DefAt P w K mg base CX0 2 "lowest" p_lowest _ fd_lowest [] F_lowest := ⟨o_lowest, g_lowest, FD_lowest.kp, by
    obtain ⟨ds, v, b⟩ : ∃ ds, Vals ([V.int 1].drop 1) ds ∧ Binds K fd_lowest p_lowest ds := b_of (ps := p_lowest) FD_lowest 2 1 (by intro z; cases z) rfl fun T kV doc pm an cdv ct us its hu hi => match us, its, hu, hi with
      | [_, _], [_], _, _ => ⟨_, rfl, rfl⟩
    exact ⟨_, ds, b, v, fun H => reps_nil⟩⟩
  have D1_lowest : DefAt P w K mg base CX0 2 "lowest" p_lowest _ fd_lowest [.int 1] F_lowest := ⟨o_lowest, g_lowest, FD_lowest.kp, by
    obtain ⟨ds, v, b⟩ : ∃ ds, Vals ([V.int 1].drop 0) ds ∧ Binds K fd_lowest p_lowest ds := b_of (ps := p_lowest) FD_lowest 1 0 (by intro z; cases z) rfl fun T kV doc pm an cdv ct us its hu hi => match us, its, hu, hi with
      | [_], [_], _, _ => ⟨_, rfl, rfl⟩
    exact ⟨_, ds, b, v, fun H => reps_cons r_int (reps_nil)⟩⟩
  have b_plus := FunD.bindsN (ps := p_plus) FD_plus fun _ _ _ _ _ _ us hl => match us, hl with | [_, _], _ => rfl
  have D_plus : DefAt P w K mg base CX0 3 "plus" p_plus _ fd_plus [] F_plus := ⟨ok_plus FD_plus D_lowest, g_plus, FD_plus.kp, [], [], b_plus, .nil, fun H => reps_nil⟩
  have b_product := FunD.bindsN (ps := p_product) FD_product fun _ _ _ _ _ _ us hl => match us, hl with | [_, _], _ => rfl
  have D_product : DefAt P w K mg base CX0 3 "product" p_product _ fd_product [] F_product := ⟨ok_product FD_product D_lowest, g_product, FD_product.kp, [], [], b_product, .nil, fun H => reps_nil⟩
  have KM : DefK P w K mg base CX0 3 "product" p_product _ fd_product 0 ["other", "one"] [1, 0] [] F_product := ⟨D_product.ok, g_product, FD_product.kp, kbN FD_product 0 ["other", "one"] [1, 0] fun kV doc pm an cdv ct us ws hu hw => match us, ws, hu, hw with | [], [_, _], _, _ => rfl⟩
  have b_below := FunD.bindsN (ps := p_below) FD_below fun _ _ _ _ _ _ us hl => match us, hl with | [_, _], _ => rfl
  have D_below : DefAt P w K mg base CX0 1 "below" p_below _ fd_below [] F_below := ⟨ok_below FD_below , g_below, FD_below.kp, [], [], b_below, .nil, fun H => reps_nil⟩
  have KB : DefK P w K mg base CX0 1 "below" p_below _ fd_below 0 ["other", "one"] [1, 0] [] F_below := ⟨D_below.ok, g_below, FD_below.kp, kbN FD_below 0 ["other", "one"] [1, 0] fun kV doc pm an cdv ct us ws hu hw => match us, ws, hu, hw with | [], [_, _], _, _ => rfl⟩
  have b_total := FunD.bindsN (ps := p_total) FD_total fun _ _ _ _ _ _ us hl => match us, hl with | [_], _ => rfl
  have D_total : DefAt P w K mg base CX0 4 "total" p_total _ fd_total [] F_total := ⟨ok_total FD_total G_NOUGHT D_plus, g_total, FD_total.kp, [], [], b_total, .nil, fun H => reps_nil⟩
  have KS : DefK P w K mg base CX0 4 "total" p_total _ fd_total 0 ["numbers"] [0] [] F_total := ⟨D_total.ok, g_total, FD_total.kp, kbN FD_total 0 ["numbers"] [0] fun kV doc pm an cdv ct us ws hu hw => match us, ws, hu, hw with | [], [_], _, _ => rfl⟩
  have b__law_mixed := FunD.bindsN (ps := p__law_mixed) FD__law_mixed fun _ _ _ _ _ _ us hl => match us, hl with | [_, _], _ => rfl
  have D__law_mixed : DefAt P w K mg base CX0 1 "_law_mixed" p__law_mixed _ fd__law_mixed [] F__law_mixed := ⟨ok__law_mixed FD__law_mixed , g__law_mixed, FD__law_mixed.kp, [], [], b__law_mixed, .nil, fun H => reps_nil⟩
  have b__law_pile := FunD.bindsN (ps := p__law_pile) FD__law_pile fun _ _ _ _ _ _ us hl => match us, hl with | [_, _], _ => rfl
  have D__law_pile : DefAt P w K mg base CX0 1 "_law_pile" p__law_pile _ fd__law_pile [] F__law_pile := ⟨ok__law_pile FD__law_pile T, g__law_pile, FD__law_pile.kp, [], [], b__law_pile, .nil, fun H => reps_nil⟩
  have b__law_take := FunD.bindsN (ps := p__law_take) FD__law_take fun _ _ _ _ _ _ us hl => match us, hl with | [_, _], _ => rfl
  have D__law_take : DefI P w K mg base CX0 2 "_law_take" p__law_take _ fd__law_take [] F__law_take := ⟨ok__law_take FD__law_take D__law_mixed, g__law_take, FD__law_take.kp, [], [], b__law_take, .nil, fun H => reps_nil⟩
  have b__law_lowest := FunD.bindsN (ps := p__law_lowest) FD__law_lowest fun _ _ _ _ _ _ us hl => match us, hl with | [_, _], _ => rfl
  have D__law_lowest : DefAt P w K mg base CX0 1 "_law_lowest" p__law_lowest _ fd__law_lowest [] F__law_lowest := ⟨ok__law_lowest FD__law_lowest , g__law_lowest, FD__law_lowest.kp, [], [], b__law_lowest, .nil, fun H => reps_nil⟩
  have b__law_number := FunD.bindsN (ps := p__law_number) FD__law_number fun _ _ _ _ _ _ us hl => match us, hl with | [_], _ => rfl
  have D__law_number : DefI P w K mg base CX0 3 "_law_number" p__law_number _ fd__law_number [] F__law_number := ⟨ok__law_number FD__law_number D__law_take D__law_lowest, g__law_number, FD__law_number.kp, [], [], b__law_number, .nil, fun H => reps_nil⟩
  have b__law_plus := FunD.bindsN (ps := p__law_plus) FD__law_plus fun _ _ _ _ _ _ us hl => match us, hl with | [_, _], _ => rfl
  have D__law_plus : DefAt P w K mg base CX0 2 "_law_plus" p__law_plus _ fd__law_plus [] F__law_plus := ⟨ok__law_plus FD__law_plus D__law_lowest, g__law_plus, FD__law_plus.kp, [], [], b__law_plus, .nil, fun H => reps_nil⟩
  have b__law_is := FunD.bindsN (ps := p__law_is) FD__law_is fun _ _ _ _ _ _ us hl => match us, hl with | [_, _, _], _ => rfl
  have D__law_is : DefAt P w K mg base CX0 2 "_law_is" p__law_is _ fd__law_is [] F__law_is := ⟨ok__law_is FD__law_is T D__law_lowest, g__law_is, FD__law_is.kp, [], [], b__law_is, .nil, fun H => reps_nil⟩
  have b__law_great := FunD.bindsN (ps := p__law_great) FD__law_great fun _ _ _ _ _ _ us hl => match us, hl with | [], _ => rfl
  have D__law_great : DefAt P w K mg base CX0 5 "_law_great" p__law_great _ fd__law_great [] F__law_great := ⟨ok__law_great FD__law_great T D_below D_product D_total, g__law_great, FD__law_great.kp, [], [], b__law_great, .nil, fun H => reps_nil⟩
  exact ok_law FD_law T D_below D_product D_total D__law_pile D__law_take D__law_number D__law_lowest D__law_plus D__law_is D__law_great KS KM KB
end K02

open PySem PySem.W PySem.Calls PyProof.Rows in
theorem PySem.Challenge.cw_eitherslack_k02_sums_and_products_holds : PySem.Challenge.rw_eitherslack_k02_sums_and_products.Holds := by
  w_on; o_law
  refine HandSHeadRun.head_any (r := OpenLaw.row PySem.Challenge.rw_eitherslack_k02_sums_and_products) (q := view (OpenLaw.row PySem.Challenge.rw_eitherslack_k02_sums_and_products).prog [20]) (H := K02.hk) (ob := K02.ob) (M := 3000) (loose := ["SlackError", "NoNumber", "NOUGHT", "divisor", "lowest", "plus", "product", "below", "total", "_law_mixed", "_law_pile", "_law_take", "_law_lowest", "_law_number", "_law_plus", "_law_is", "_law_great"]) (d := HandSHeadRun.topDef (OpenLaw.row PySem.Challenge.rw_eitherslack_k02_sums_and_products).prog 20) (kwd := []) K02.ob_eq
    (by kernel_rfl) (fun s => by kernel_rfl) K02.run (by kernel_rfl) (by kernel_rfl) (by kernel_rfl) (by rfl) (by first | assumption | decide +kernel) (by decide +kernel) ⟨rfl, rfl, rfl, rfl, rfl, by decide +kernel⟩ ?hw ?hc
  case hw => w_witness2
  case hc =>
    refine L2.walk_ofE (l := PySem.Challenge.rw_eitherslack_k02_sums_and_products) (n := 63) (k := 6) (x := "_law_script") (CX := L2.CX0) rfl (by decide) (by kernel_rfl) ⟨rfl, by decide, by decide⟩ ?F (fun _ _ _ _ z => z)
    intro w mg fa h Y G hmg0
    obtain ⟨K, KX, c⟩ := Y
    have hmg : mg ("law" : PySem.Str) = some (.ref fa) := by
      have e : (HandSHeadRun.topDef (OpenLaw.row PySem.Challenge.rw_eitherslack_k02_sums_and_products).prog 20).name = ("law" : PySem.Str) := by kernel_rfl
      rw [← e]
      exact hmg0
    obtain ⟨fd, hb, hF⟩ := K02.facts (P := (PySem.Challenge.rw_eitherslack_k02_sums_and_products).prog) (w := w) KX G hmg c
    refine ⟨K, fd, DL.spP K K02.FLaw, KX, hb, fun H a ns hl _ hS => ?_, hF⟩
    refine DL.spP_use (ds := [.fz (ns.map DL.D.int)]) (DL.reps_cons ?_ DL.reps_nil) (k := fun d => d = .bl true) ⟨ns, hl, rfl, rfl⟩ fun d v H' e n => ?_
    · unfold DL.RepR
      exact ⟨a, _, rfl, hS, DL.reps_int ns⟩
    · subst e
      obtain ⟨_, F, r, _⟩ := n
      unfold DL.RepO at r
      exact r.1
