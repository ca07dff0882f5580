import PyProof.Rows.All
import Wide.All
import OpenK.AllK
import Wide.FinOn
import HandS.ForMost
import HandS.Defaults
import HandS.ForExc
import HandS.IsInst
import HandS.Wide
import HandS.Style
import HandS.HeadHook2
import HandS.WideBits
import HandS.TryOnly
import HandS.HeadHook1
import HandS.Zip
import HandS.Iter
import KE.GoesEnumKw
import HandS.ExcIs
import HandS.ExcField
import HandS.IntHex
import HandS.StrMore
import HandS.Text
import HandS.FStr
import HandS.ClsMeth
import HandS.ExcInit
import HandS.SuiteRaise
import HandS.RaiseFrom
import HandS.ExcInitHot
import KE.GoesRaise
import PyProof.AutoIntR1
import HandS.OwnEq
import PyProof.InstEq
import HandS.HeadEnd
import PyProof.ReprRoads
import PyProof.Rows.RegStrFacts
import PyProof.Draws
import PyProof.EnumMake
import HandS.Codes
import PyProof.StrOps2
import PyProof.FitsStr
import HandS.Conv
import KE.KCallOwn
import PyProof.Rows.MatchSeqLen
import HandS.Records
import OpenK.KNot
import HandS.MakeKw
import KE.GoesZip
import KE.GoesMore
import PyProof.Rows.Range3
import HandS.More
import HandS.CallLocal
import HandS.HeadHook3
import KE.SortData
import KE.OsSortAny
import HandS.Flow
import HandS.Deep
import HandS.Dict
import KE.KStateDown
import HandS.Head0
import HandS.Head1
import HandS.Head2
import PySem.Challenge.RW_eitherslack_k79_texts_by_names
set_option Elab.async false
set_option linter.all false
set_option maxRecDepth 100000
namespace DL
open PySem L2
inductive D where
  | non | bl (b : Bool) | int (i : Int) | str (x : Str) | raw (v : V)
  | tup (l : List D) | lst (l : List D) | fz (l : List D) | ins (C : Addr) (ns : List Str) (l : List D) | exc (C : Addr) (ns : List Str) (l : List D)
  | ar (d : D) (cs us : List (Addr × List V))
  | dct (ks : List Str) (l : List D)
  | nam (d : D) (v : V)
def ExA (C : Addr) (d : Option Addr) (a : Addr) : HO := .ext fun h => ∃ (oe : Obj) (vs : Array Value), h.get? a = some oe ∧ Zc (.ref C) d oe ∧ oe.data = .fields vs
def SqF (K : PySem.W.Frag) (H : Hp) (a : Addr) (vs : List V) : Prop := (∃ o, H a = some (.frz o (.lst vs))) ∨ ((∀ H : Hp, SqL K H a vs) ∧ ∃ o, K.lookup a = some o)
def xdOk (H : Hp) (d : Option Addr) (fs : List (Str × V)) : Prop := (d = none ∧ fs = []) ∨ ∃ dx, d = some dx ∧ H dx = some (.xd fs)
mutual
def RepR (K : PySem.W.Frag) (H : Hp) : D → V → Prop
  | .non, v => v = .non
  | .bl b, v => v = .bl b
  | .int i, v => v = .int i
  | .str x, v => v = .str x
  | .raw w, v => v = w
  | .tup l, v => ∃ a vs, v = .ref a ∧ SqT K H a vs ∧ RepRs K H l vs
  | .lst l, v => ∃ a vs, v = .ref a ∧ H a = some (.lst vs) ∧ RepRs K H l vs
  | .fz l, v => ∃ a vs, v = .ref a ∧ SqF K H a vs ∧ RepRs K H l vs
  | .ins C ns l, v => ∃ a dx fs, v = .ref a ∧ H a = some (.ins C dx fs) ∧ fs.map (·.1) = ns ∧ RepRs K H l (fs.map (·.2))
  | .exc C ns l, v => ∃ a d fs, v = .ref a ∧ H a = some (ExA C d a) ∧ xdOk H d fs ∧ fs.map (·.1) = ns ∧ RepRs K H l (fs.map (·.2))
  | .dct ks l, v => ∃ a kvs, v = .ref a ∧ H a = some (.dK kvs) ∧ kvs.map (·.1) = ks.map Sum.inr ∧ RepRs K H l (kvs.map (·.2))
  | .nam d w, v => v = w ∧ RepR K H d v
  | .ar d cs us, v => RepR K H d v ∧ (∀ c, c ∈ cs → H c.1 = some (.lst c.2)) ∧ ∀ u, u ∈ us → SqT K H u.1 u.2
def RepRs (K : PySem.W.Frag) (H : Hp) : List D → List V → Prop
  | [], vs => vs = []
  | d :: ds, vs => ∃ w ws, vs = w :: ws ∧ RepR K H d w ∧ RepRs K H ds ws
end
mutual
def RepO (K : PySem.W.Frag) (H : Hp) : D → V → List Addr → Prop
  | .non, v, F => v = .non ∧ F = []
  | .bl b, v, F => v = .bl b ∧ F = []
  | .int i, v, F => v = .int i ∧ F = []
  | .str x, v, F => v = .str x ∧ F = []
  | .raw w, v, F => v = w ∧ F = []
  | .tup l, v, F => ∃ a vs, v = .ref a ∧ SqT K H a vs ∧ RepOs K H l vs F
  | .lst l, v, F => ∃ a vs G, v = .ref a ∧ H a = some (.lst vs) ∧ F = a :: G ∧ RepOs K H l vs G
  | .fz l, v, F => ∃ a vs, v = .ref a ∧ SqF K H a vs ∧ RepOs K H l vs F
  | .ins C ns l, v, F => ∃ a dx fs G, v = .ref a ∧ H a = some (.ins C dx fs) ∧ H dx = some (.own a) ∧ fs.map (·.1) = ns ∧ F = a :: dx :: G ∧ RepOs K H l (fs.map (·.2)) G
  | .exc C ns l, v, F => ∃ a d fs, v = .ref a ∧ H a = some (ExA C d a) ∧ xdOk H d fs ∧ fs.map (·.1) = ns ∧ RepOs K H l (fs.map (·.2)) F
  | .dct ks l, v, F => ∃ a kvs G, v = .ref a ∧ H a = some (.dK kvs) ∧ kvs.map (·.1) = ks.map Sum.inr ∧ F = a :: G ∧ RepOs K H l (kvs.map (·.2)) G
  | .nam d w, v, F => v = w ∧ RepO K H d v F
  | .ar d cs us, v, F => RepO K H d v [] ∧ F = cs.map (·.1) ∧ (∀ c, c ∈ cs → H c.1 = some (.lst c.2)) ∧ ∀ u, u ∈ us → SqT K H u.1 u.2
def RepOs (K : PySem.W.Frag) (H : Hp) : List D → List V → List Addr → Prop
  | [], vs, F => vs = [] ∧ F = []
  | d :: ds, vs, F => ∃ w ws F1 F2, vs = w :: ws ∧ F = F1 ++ F2 ∧ RepO K H d w F1 ∧ RepOs K H ds ws F2
end
mutual
def D.flat : D → Bool
  | .tup l => D.flats l
  | .lst _ => false
  | .fz l => D.flats l
  | .ins _ _ _ => false
  | .exc _ _ l => D.flats l
  | .dct _ _ => false
  | .nam _ _ => false
  | .ar _ _ _ => false
  | _ => true
def D.flats : List D → Bool
  | [] => true
  | d :: ds => d.flat && D.flats ds
end
def Ex (H H' : Hp) : Prop := ∀ a o, H a = some o → H' a = some o
theorem Ex.refl (H : Hp) : Ex H H := fun _ _ h => h
theorem Ex.trans {H H1 H2 : Hp} (a : Ex H H1) (b : Ex H1 H2) : Ex H H2 := fun x o h => b x o (a x o h)
theorem Ex.new {H : Hp} {p : Addr} {o : HO} (h : H p = none) : Ex H (upd H p o) := fun a u e => by
  rw [upd_ne (ne_of_none e h)]
  exact e
theorem Ex.back {H H' : Hp} {p : Addr} (e : Ex H H') (h : H' p = none) : H p = none := by
  cases h1 : H p with
  | none => rfl
  | some o =>
    rw [e p o h1] at h
    cases h
def stab : HO → Prop
  | .tup _ => True
  | .frz _ _ => True
  | .ext _ => True
  | .xd _ => True
  | _ => False
def TK (H H' : Hp) : Prop := ∀ a o, H a = some o → stab o → H' a = some o
theorem Ex.tk {H H' : Hp} (e : Ex H H') : TK H H' := fun a o h _ => e a o h
theorem TK.refl (H : Hp) : TK H H := fun _ _ h _ => h
theorem TK.upd {H : Hp} {a : Addr} {o u : HO} (h : H a = some o) (n : ¬ stab o) : TK H (upd H a u) := fun b x e s => by
  have nb : b ≠ a := by
    intro z
    subst z
    rw [h] at e
    cases e
    exact n s
  rw [upd_ne nb]
  exact e
theorem TK.sqt {K : PySem.W.Frag} {H H' : Hp} {a : Addr} {vs : List V} (t : TK H H') (h : SqT K H a vs) : SqT K H' a vs := by
  rcases h with (h | ⟨o, h⟩) | h
  · exact .inl (.inl (t _ _ h trivial))
  · exact .inl (.inr ⟨o, t _ _ h trivial⟩)
  · exact .inr h
theorem TK.xd {H H' : Hp} {d : Option Addr} {fs : List (Str × V)} (t : TK H H') (h : xdOk H d fs) : xdOk H' d fs := by
  rcases h with h | ⟨dx, e, h⟩
  · exact .inl h
  · exact .inr ⟨dx, e, t _ _ h trivial⟩
theorem TK.exa {H H' : Hp} {C : Addr} {d : Option Addr} {a : Addr} (t : TK H H') (h : H a = some (ExA C d a)) : H' a = some (ExA C d a) := t _ _ h trivial
theorem SqF.sql {K : PySem.W.Frag} {H : Hp} {a : Addr} {vs : List V} (h : SqF K H a vs) : SqL K H a vs := h.elim (fun h => .inl (.inr h)) fun h => h.1 H
theorem TK.sqf {K : PySem.W.Frag} {H H' : Hp} {a : Addr} {vs : List V} (t : TK H H') (h : SqF K H a vs) : SqF K H' a vs := h.imp (fun h => h.imp fun _ e => t _ _ e trivial) id
theorem Ex.sqt {K : PySem.W.Frag} {H H' : Hp} {a : Addr} {vs : List V} (t : Ex H H') (h : SqT K H a vs) : SqT K H' a vs := t.tk.sqt h
theorem Ex.sql {K : PySem.W.Frag} {H H' : Hp} {a : Addr} {vs : List V} (t : Ex H H') (h : SqL K H a vs) : SqL K H' a vs := by
  rcases h with (h | ⟨o, h⟩) | h
  · exact .inl (.inl (t _ _ h))
  · exact .inl (.inr ⟨o, t _ _ h⟩)
  · exact .inr h
open Classical in
noncomputable def restr (H : Hp) (P : Addr → Prop) : Hp := fun a => if P a ∨ (∃ o, H a = some o ∧ stab o) then H a else none
theorem restr_ex {H : Hp} {P : Addr → Prop} : Ex (restr H P) H := fun a o h => by
  unfold restr at h
  split at h
  · exact h
  · cases h
theorem restr_at {H : Hp} {P : Addr → Prop} {a : Addr} (h : P a) : restr H P a = H a := by
  unfold restr
  rw [if_pos (.inl h)]
theorem restr_tk {H : Hp} {P : Addr → Prop} : TK H (restr H P) := fun a o h s => by
  unfold restr
  rw [if_pos (.inr ⟨o, h, s⟩)]
  exact h
theorem restr_mono {H H' : Hp} {P Q : Addr → Prop} (t : TK H H') (k : ∀ a o, P a → H a = some o → H' a = some o ∧ Q a) : Ex (restr H P) (restr H' Q) := fun a o h => by
  unfold restr at h
  split at h
  · rename_i c
    rcases c with c | ⟨u, e, s⟩
    · obtain ⟨e, q⟩ := k a o c h
      rw [restr_at q]
      exact e
    · rw [h] at e
      cases e
      exact restr_tk a o (t a o h s) s
  · cases h
section
variable {K : PySem.W.Frag} {H H' : Hp}
mutual
theorem RepR.mono (e : Ex H H') : ∀ {d : D} {v : V}, RepR K H d v → RepR K H' d v
  | .non, _, h => by unfold RepR at h ⊢; exact h
  | .bl _, _, h => by unfold RepR at h ⊢; exact h
  | .int _, _, h => by unfold RepR at h ⊢; exact h
  | .str _, _, h => by unfold RepR at h ⊢; exact h
  | .raw _, _, h => by unfold RepR at h ⊢; exact h
  | .tup l, _, h => by
    unfold RepR at h ⊢
    obtain ⟨a, vs, e1, e2, e3⟩ := h
    exact ⟨a, vs, e1, e.sqt e2, RepRs.mono e e3⟩
  | .lst l, _, h => by
    unfold RepR at h ⊢
    obtain ⟨a, vs, e1, e2, e3⟩ := h
    exact ⟨a, vs, e1, e _ _ e2, RepRs.mono e e3⟩
  | .fz l, _, h => by
    unfold RepR at h ⊢
    obtain ⟨a, vs, e1, e2, e3⟩ := h
    exact ⟨a, vs, e1, e.tk.sqf e2, RepRs.mono e e3⟩
  | .ins C ns l, _, h => by
    unfold RepR at h ⊢
    obtain ⟨a, dx, fs, e1, e2, e3, e4⟩ := h
    exact ⟨a, dx, fs, e1, e _ _ e2, e3, RepRs.mono e e4⟩
  | .exc C ns l, _, h => by
    unfold RepR at h ⊢
    obtain ⟨a, d, fs, e1, e2, e3, e4, e5⟩ := h
    exact ⟨a, d, fs, e1, e.tk.exa e2, e.tk.xd e3, e4, RepRs.mono e e5⟩
  | .nam d w, _, h => by
    unfold RepR at h ⊢
    exact ⟨h.1, RepR.mono e h.2⟩
  | .dct ks l, _, h => by
    unfold RepR at h ⊢
    obtain ⟨a, kvs, e1, e2, e3, e4⟩ := h
    exact ⟨a, kvs, e1, e _ _ e2, e3, RepRs.mono e e4⟩
  | .ar d cs us, _, h => by
    unfold RepR at h ⊢
    exact ⟨RepR.mono e h.1, fun c hc => e _ _ (h.2.1 c hc), fun u hu => e.sqt (h.2.2 u hu)⟩
theorem RepRs.mono (e : Ex H H') : ∀ {ds : List D} {vs : List V}, RepRs K H ds vs → RepRs K H' ds vs
  | [], _, h => by unfold RepRs at h ⊢; exact h
  | d :: ds, _, h => by
    unfold RepRs at h ⊢
    obtain ⟨w, ws, e1, e2, e3⟩ := h
    exact ⟨w, ws, e1, RepR.mono e e2, RepRs.mono e e3⟩
end
mutual
theorem RepO.frame (t : TK H H') : ∀ {d : D} {v : V} {F : List Addr}, RepO K H d v F → (∀ a ∈ F, H' a = H a) → RepO K H' d v F
  | .non, _, _, h, _ => by unfold RepO at h ⊢; exact h
  | .bl _, _, _, h, _ => by unfold RepO at h ⊢; exact h
  | .int _, _, _, h, _ => by unfold RepO at h ⊢; exact h
  | .str _, _, _, h, _ => by unfold RepO at h ⊢; exact h
  | .raw _, _, _, h, _ => by unfold RepO at h ⊢; exact h
  | .tup l, _, _, h, k => by
    unfold RepO at h ⊢
    obtain ⟨a, vs, e1, e2, e3⟩ := h
    exact ⟨a, vs, e1, t.sqt e2, RepOs.frame t e3 k⟩
  | .lst l, _, _, h, k => by
    unfold RepO at h ⊢
    obtain ⟨a, vs, G, e1, e2, e3, e4⟩ := h
    subst e3
    exact ⟨a, vs, G, e1, (k a List.mem_cons_self).trans e2, rfl, RepOs.frame t e4 fun b hb => k b (List.mem_cons_of_mem _ hb)⟩
  | .fz l, _, _, h, k => by
    unfold RepO at h ⊢
    obtain ⟨a, vs, e1, e2, e3⟩ := h
    exact ⟨a, vs, e1, t.sqf e2, RepOs.frame t e3 k⟩
  | .ins C ns l, _, _, h, k => by
    unfold RepO at h ⊢
    obtain ⟨a, dx, fs, G, e1, e2, e3, e4, e5, e6⟩ := h
    subst e5
    exact ⟨a, dx, fs, G, e1, (k a List.mem_cons_self).trans e2, (k dx (List.mem_cons_of_mem _ List.mem_cons_self)).trans e3, e4, rfl, RepOs.frame t e6 fun b hb => k b (List.mem_cons_of_mem _ (List.mem_cons_of_mem _ hb))⟩
  | .exc C ns l, _, _, h, k => by
    unfold RepO at h ⊢
    obtain ⟨a, d, fs, e1, e2, e3, e4, e5⟩ := h
    exact ⟨a, d, fs, e1, t.exa e2, t.xd e3, e4, RepOs.frame t e5 k⟩
  | .nam d w, _, _, h, k => by
    unfold RepO at h ⊢
    exact ⟨h.1, RepO.frame t h.2 k⟩
  | .dct ks l, _, _, h, k => by
    unfold RepO at h ⊢
    obtain ⟨a, kvs, G, e1, e2, e3, e4, e5⟩ := h
    subst e4
    exact ⟨a, kvs, G, e1, (k a List.mem_cons_self).trans e2, e3, rfl, RepOs.frame t e5 fun b hb => k b (List.mem_cons_of_mem _ hb)⟩
  | .ar d cs us, _, _, h, k => by
    unfold RepO at h ⊢
    obtain ⟨e1, e2, e3, e4⟩ := h
    subst e2
    exact ⟨RepO.frame t e1 (fun _ hb => nomatch hb), rfl, fun c hc => (k c.1 (List.mem_map.mpr ⟨c, hc, rfl⟩)).trans (e3 c hc), fun u hu => t.sqt (e4 u hu)⟩
theorem RepOs.frame (t : TK H H') : ∀ {ds : List D} {vs : List V} {F : List Addr}, RepOs K H ds vs F → (∀ a ∈ F, H' a = H a) → RepOs K H' ds vs F
  | [], _, _, h, _ => by unfold RepOs at h ⊢; exact h
  | d :: ds, _, _, h, k => by
    unfold RepOs at h ⊢
    obtain ⟨w, ws, F1, F2, e1, e2, e3, e4⟩ := h
    subst e2
    exact ⟨w, ws, F1, F2, e1, rfl, RepO.frame t e3 fun b hb => k b (List.mem_append_left _ hb), RepOs.frame t e4 fun b hb => k b (List.mem_append_right _ hb)⟩
end
mutual
theorem RepO.dom : ∀ {d : D} {v : V} {F : List Addr}, RepO K H d v F → ∀ a ∈ F, ∃ o, H a = some o ∧ ¬ stab o
  | .non, _, _, h, a, m => by unfold RepO at h; rw [h.2] at m; cases m
  | .bl _, _, _, h, a, m => by unfold RepO at h; rw [h.2] at m; cases m
  | .int _, _, _, h, a, m => by unfold RepO at h; rw [h.2] at m; cases m
  | .str _, _, _, h, a, m => by unfold RepO at h; rw [h.2] at m; cases m
  | .raw _, _, _, h, a, m => by unfold RepO at h; rw [h.2] at m; cases m
  | .tup l, _, _, h, a, m => by
    unfold RepO at h
    obtain ⟨_, vs, e1, e2, e3⟩ := h
    exact RepOs.dom e3 a m
  | .lst l, _, _, h, a, m => by
    unfold RepO at h
    obtain ⟨b, vs, G, e1, e2, e3, e4⟩ := h
    subst e3
    rcases List.mem_cons.mp m with rfl | m
    · exact ⟨_, e2, fun z => z⟩
    · exact RepOs.dom e4 a m
  | .fz l, _, _, h, a, m => by
    unfold RepO at h
    obtain ⟨_, vs, e1, e2, e3⟩ := h
    exact RepOs.dom e3 a m
  | .ins C ns l, _, _, h, a, m => by
    unfold RepO at h
    obtain ⟨b, dx, fs, G, e1, e2, e3, e4, e5, e6⟩ := h
    subst e5
    rcases List.mem_cons.mp m with rfl | m
    · exact ⟨_, e2, fun z => z⟩
    · rcases List.mem_cons.mp m with rfl | m
      · exact ⟨_, e3, fun z => z⟩
      · exact RepOs.dom e6 a m
  | .exc C ns l, _, _, h, a, m => by
    unfold RepO at h
    obtain ⟨b, d, fs, e1, e2, e3, e4, e5⟩ := h
    exact RepOs.dom e5 a m
  | .nam d w, _, _, h, a, m => by
    unfold RepO at h
    exact RepO.dom h.2 a m
  | .dct ks l, _, _, h, a, m => by
    unfold RepO at h
    obtain ⟨b, kvs, G, e1, e2, e3, e4, e5⟩ := h
    subst e4
    rcases List.mem_cons.mp m with rfl | m
    · exact ⟨_, e2, fun z => z⟩
    · exact RepOs.dom e5 a m
  | .ar d cs us, _, _, h, a, m => by
    unfold RepO at h
    obtain ⟨e1, e2, e3, e4⟩ := h
    subst e2
    obtain ⟨c, hc, rfl⟩ := List.mem_map.mp m
    exact ⟨_, e3 c hc, fun z => z⟩
theorem RepOs.dom : ∀ {ds : List D} {vs : List V} {F : List Addr}, RepOs K H ds vs F → ∀ a ∈ F, ∃ o, H a = some o ∧ ¬ stab o
  | [], _, _, h, a, m => by unfold RepOs at h; rw [h.2] at m; cases m
  | d :: ds, _, _, h, a, m => by
    unfold RepOs at h
    obtain ⟨w, ws, F1, F2, e1, e2, e3, e4⟩ := h
    subst e2
    rcases List.mem_append.mp m with m | m
    · exact RepO.dom e3 a m
    · exact RepOs.dom e4 a m
end
mutual
theorem RepO.toR : ∀ {d : D} {v : V} {F : List Addr} {P : Addr → Prop}, RepO K H d v F → (∀ a ∈ F, P a) → RepR K (restr H P) d v
  | .non, _, _, _, h, _ => by unfold RepO at h; unfold RepR; exact h.1
  | .bl _, _, _, _, h, _ => by unfold RepO at h; unfold RepR; exact h.1
  | .int _, _, _, _, h, _ => by unfold RepO at h; unfold RepR; exact h.1
  | .str _, _, _, _, h, _ => by unfold RepO at h; unfold RepR; exact h.1
  | .raw _, _, _, _, h, _ => by unfold RepO at h; unfold RepR; exact h.1
  | .tup l, _, _, _, h, k => by
    unfold RepO at h
    unfold RepR
    obtain ⟨a, vs, e1, e2, e3⟩ := h
    exact ⟨a, vs, e1, restr_tk.sqt e2, RepOs.toR e3 k⟩
  | .lst l, _, _, _, h, k => by
    unfold RepO at h
    unfold RepR
    obtain ⟨a, vs, G, e1, e2, e3, e4⟩ := h
    subst e3
    exact ⟨a, vs, e1, (restr_at (k a List.mem_cons_self)).trans e2, RepOs.toR e4 fun b hb => k b (List.mem_cons_of_mem _ hb)⟩
  | .fz l, _, _, _, h, k => by
    unfold RepO at h
    unfold RepR
    obtain ⟨a, vs, e1, e2, e3⟩ := h
    exact ⟨a, vs, e1, restr_tk.sqf e2, RepOs.toR e3 k⟩
  | .ins C ns l, _, _, _, h, k => by
    unfold RepO at h
    unfold RepR
    obtain ⟨a, dx, fs, G, e1, e2, e3, e4, e5, e6⟩ := h
    subst e5
    exact ⟨a, dx, fs, e1, (restr_at (k a List.mem_cons_self)).trans e2, e4, RepOs.toR e6 fun b hb => k b (List.mem_cons_of_mem _ (List.mem_cons_of_mem _ hb))⟩
  | .exc C ns l, _, _, _, h, k => by
    unfold RepO at h
    unfold RepR
    obtain ⟨a, d, fs, e1, e2, e3, e4, e5⟩ := h
    exact ⟨a, d, fs, e1, restr_tk.exa e2, restr_tk.xd e3, e4, RepOs.toR e5 k⟩
  | .nam d w, _, _, _, h, k => by
    unfold RepO at h
    unfold RepR
    exact ⟨h.1, RepO.toR h.2 k⟩
  | .dct ks l, _, _, _, h, k => by
    unfold RepO at h
    unfold RepR
    obtain ⟨a, kvs, G, e1, e2, e3, e4, e5⟩ := h
    subst e4
    exact ⟨a, kvs, e1, (restr_at (k a List.mem_cons_self)).trans e2, e3, RepOs.toR e5 fun b hb => k b (List.mem_cons_of_mem _ hb)⟩
  | .ar d cs us, _, _, _, h, k => by
    unfold RepO at h
    unfold RepR
    obtain ⟨e1, e2, e3, e4⟩ := h
    subst e2
    exact ⟨RepO.toR e1 (fun _ hb => nomatch hb), fun c hc => (restr_at (k c.1 (List.mem_map.mpr ⟨c, hc, rfl⟩))).trans (e3 c hc), fun u hu => restr_tk.sqt (e4 u hu)⟩
theorem RepOs.toR : ∀ {ds : List D} {vs : List V} {F : List Addr} {P : Addr → Prop}, RepOs K H ds vs F → (∀ a ∈ F, P a) → RepRs K (restr H P) ds vs
  | [], _, _, _, h, _ => by unfold RepOs at h; unfold RepRs; exact h.1
  | d :: ds, _, _, _, h, k => by
    unfold RepOs at h
    unfold RepRs
    obtain ⟨w, ws, F1, F2, e1, e2, e3, e4⟩ := h
    subst e2
    exact ⟨w, ws, e1, RepO.toR e3 fun b hb => k b (List.mem_append_left _ hb), RepOs.toR e4 fun b hb => k b (List.mem_append_right _ hb)⟩
end
theorem RepO.rep {d : D} {v : V} {F : List Addr} (h : RepO K H d v F) : RepR K H d v := (h.toR (P := fun _ => True) fun _ _ => trivial).mono restr_ex
theorem RepOs.reps {d : List D} {v : List V} {F : List Addr} (h : RepOs K H d v F) : RepRs K H d v := (h.toR (P := fun _ => True) fun _ _ => trivial).mono restr_ex
mutual
theorem RepO.nil_of : ∀ {d : D} {v : V} {F : List Addr}, RepO K H d v F → d.flat = true → F = []
  | .non, _, _, h, _ => by unfold RepO at h; exact h.2
  | .bl _, _, _, h, _ => by unfold RepO at h; exact h.2
  | .int _, _, _, h, _ => by unfold RepO at h; exact h.2
  | .str _, _, _, h, _ => by unfold RepO at h; exact h.2
  | .raw _, _, _, h, _ => by unfold RepO at h; exact h.2
  | .tup l, _, _, h, z => by
    unfold RepO at h
    unfold D.flat at z
    obtain ⟨_, vs, e1, e2, e3⟩ := h
    exact RepOs.nil_of e3 z
  | .lst l, _, _, h, z => by unfold D.flat at z; cases z
  | .fz l, _, _, h, z => by
    unfold RepO at h
    unfold D.flat at z
    obtain ⟨_, vs, e1, e2, e3⟩ := h
    exact RepOs.nil_of e3 z
  | .ins C ns l, _, _, h, z => by unfold D.flat at z; cases z
  | .exc C ns l, _, _, h, z => by
    unfold RepO at h
    unfold D.flat at z
    obtain ⟨_, _, _, e1, e2, e3, e4, e5⟩ := h
    exact RepOs.nil_of e5 z
  | .dct _ _, _, _, _, z => by unfold D.flat at z; cases z
  | .nam _ _, _, _, _, z => by unfold D.flat at z; cases z
  | .ar _ _ _, _, _, _, z => by unfold D.flat at z; cases z
theorem RepOs.nil_of : ∀ {ds : List D} {vs : List V} {F : List Addr}, RepOs K H ds vs F → D.flats ds = true → F = []
  | [], _, _, h, _ => by unfold RepOs at h; exact h.2
  | d :: ds, _, _, h, z => by
    unfold RepOs at h
    unfold D.flats at z
    rw [Bool.and_eq_true] at z
    obtain ⟨w, ws, F1, F2, e1, e2, e3, e4⟩ := h
    rw [e2, RepO.nil_of e3 z.1, RepOs.nil_of e4 z.2]
    rfl
end
mutual
theorem RepR.flatO : ∀ {d : D} {v : V}, RepR K H d v → d.flat = true → RepO K H d v []
  | .non, _, h, _ => by unfold RepR at h; unfold RepO; exact ⟨h, rfl⟩
  | .bl _, _, h, _ => by unfold RepR at h; unfold RepO; exact ⟨h, rfl⟩
  | .int _, _, h, _ => by unfold RepR at h; unfold RepO; exact ⟨h, rfl⟩
  | .str _, _, h, _ => by unfold RepR at h; unfold RepO; exact ⟨h, rfl⟩
  | .raw _, _, h, _ => by unfold RepR at h; unfold RepO; exact ⟨h, rfl⟩
  | .tup l, _, h, z => by
    unfold RepR at h
    unfold D.flat at z
    unfold RepO
    obtain ⟨a, vs, e1, e2, e3⟩ := h
    exact ⟨a, vs, e1, e2, RepRs.flatO e3 z⟩
  | .lst l, _, h, z => by unfold D.flat at z; cases z
  | .fz l, _, h, z => by
    unfold RepR at h
    unfold D.flat at z
    unfold RepO
    obtain ⟨a, vs, e1, e2, e3⟩ := h
    exact ⟨a, vs, e1, e2, RepRs.flatO e3 z⟩
  | .ins C ns l, _, h, z => by unfold D.flat at z; cases z
  | .exc C ns l, _, h, z => by
    unfold RepR at h
    unfold D.flat at z
    unfold RepO
    obtain ⟨a, d, fs, e1, e2, e3, e4, e5⟩ := h
    exact ⟨a, d, fs, e1, e2, e3, e4, RepRs.flatO e5 z⟩
  | .dct _ _, _, _, z => by unfold D.flat at z; cases z
  | .nam _ _, _, _, z => by unfold D.flat at z; cases z
  | .ar _ _ _, _, _, z => by unfold D.flat at z; cases z
theorem RepRs.flatO : ∀ {ds : List D} {vs : List V}, RepRs K H ds vs → D.flats ds = true → RepOs K H ds vs []
  | [], _, h, _ => by unfold RepRs at h; unfold RepOs; exact ⟨h, rfl⟩
  | d :: ds, _, h, z => by
    unfold RepRs at h
    unfold D.flats at z
    rw [Bool.and_eq_true] at z
    unfold RepOs
    obtain ⟨w, ws, e1, e2, e3⟩ := h
    exact ⟨w, ws, [], [], e1, rfl, RepR.flatO e2 z.1, RepRs.flatO e3 z.2⟩
end
theorem RepRs.length : ∀ {ds : List D} {vs : List V}, RepRs K H ds vs → vs.length = ds.length
  | [], _, h => by unfold RepRs at h; subst h; rfl
  | d :: ds, _, h => by
    unfold RepRs at h
    obtain ⟨w, ws, e1, _, e3⟩ := h
    rw [e1, List.length_cons, List.length_cons, RepRs.length e3]
theorem RepRs.get : ∀ {ds : List D} {vs : List V} {i : Nat} {d : D}, RepRs K H ds vs → ds[i]? = some d → ∃ w, vs[i]? = some w ∧ RepR K H d w
  | [], _, i, _, h, e => by simp at e
  | d :: ds, _, 0, d', h, e => by
    unfold RepRs at h
    obtain ⟨w, ws, e1, e2, e3⟩ := h
    subst e1
    have z : d = d' := by simpa using e
    subst z
    exact ⟨w, rfl, e2⟩
  | d :: ds, _, i + 1, d', h, e => by
    unfold RepRs at h
    obtain ⟨w, ws, e1, e2, e3⟩ := h
    subst e1
    obtain ⟨u, h1, h2⟩ := RepRs.get (i := i) e3 (by simpa using e)
    exact ⟨u, by simpa using h1, h2⟩
theorem RepRs.append : ∀ {ds es : List D} {vs ws : List V}, RepRs K H ds vs → RepRs K H es ws → RepRs K H (ds ++ es) (vs ++ ws)
  | [], _, _, _, h, k => by unfold RepRs at h; rw [h]; exact k
  | d :: ds, _, _, _, h, k => by
    unfold RepRs at h
    obtain ⟨w, ws, e1, e2, e3⟩ := h
    subst e1
    rw [List.cons_append, List.cons_append]
    unfold RepRs
    exact ⟨w, _, rfl, e2, RepRs.append e3 k⟩
theorem RepOs.append : ∀ {ds es : List D} {vs ws : List V} {F G : List Addr}, RepOs K H ds vs F → RepOs K H es ws G → RepOs K H (ds ++ es) (vs ++ ws) (F ++ G)
  | [], _, _, _, _, _, h, k => by unfold RepOs at h; rw [h.1, h.2]; exact k
  | d :: ds, _, _, _, _, _, h, k => by
    unfold RepOs at h
    obtain ⟨w, ws, F1, F2, e1, e2, e3, e4⟩ := h
    subst e1 e2
    rw [List.cons_append, List.cons_append, List.append_assoc]
    unfold RepOs
    exact ⟨w, _, F1, _, rfl, rfl, e3, RepOs.append e4 k⟩
theorem RepOs.one {d : D} {v : V} {F : List Addr} (h : RepO K H d v F) : RepOs K H [d] [v] F := by
  unfold RepOs
  exact ⟨v, [], F, [], rfl, (List.append_nil F).symm, h, by unfold RepOs; exact ⟨rfl, rfl⟩⟩
end
end DL
namespace DL
open PySem L2
inductive Own where
  | v (i : Nat) | t (k : Nat)
  deriving DecidableEq
inductive Slot where
  | no | own (d : D) | par (d : D) | view (o : Own) (d : D)
def ownOk (m : Nat → Prop) : Own → Prop
  | .v _ => True
  | .t k => m k
def Low (m : Nat → Prop) (n : Nat) : Prop := ∀ k, m k → k < n
theorem Low.up {m : Nat → Prop} {n : Nat} (h : Low m n) : Low m (n + 1) := fun k q => Nat.lt_succ_of_lt (h k q)
theorem Low.self {n : Nat} : Low (fun k => k < n) n := fun _ q => q
theorem Low.add {m : Nat → Prop} {n j : Nat} (h : Low m n) : Low m (n + j) := fun k q => Nat.lt_of_lt_of_le (h k q) (Nat.le_add_right _ _)
def SlotOk (K : PySem.W.Frag) (B H : Hp) (fp : Own → List Addr) (m : Nat → Prop) (o : Own) (x : Option V) : Slot → Prop
  | .no => True
  | .own d => ∃ v, x = some v ∧ RepO K H d v (fp o)
  | .par d => ∃ v, x = some v ∧ RepR K B d v
  | .view o' d => ownOk m o' ∧ ∃ v, x = some v ∧ RepR K (restr H (fun a => a ∈ fp o' ∨ (B a).isSome = true)) d v
structure HeldF (K : PySem.W.Frag) (m : Nat → Prop) (B H : Hp) (fp : Own → List Addr) (σ : List (Option V)) (ss : List Slot) (tv : List V) (ts : List Slot) : Prop where
  base : Ex B H
  slen : σ.length = ss.length
  tlen : tv.length = ts.length
  mle : Low m ts.length
  var : ∀ i s, ss[i]? = some s → SlotOk K B H fp m (.v i) (σ[i]?.join) s
  tmp : ∀ k s, ts.reverse[k]? = some s → SlotOk K B H fp m (.t k) (tv.reverse[k]?) s
  disj : ∀ o o' a, a ∈ fp o → a ∈ fp o' → o = o'
  nod : ∀ o, (fp o).Nodup
  out : ∀ o a, a ∈ fp o → B a = none
  dom : ∀ o a, a ∈ fp o → ∃ u, H a = some u ∧ ¬ stab u
def Held (K : PySem.W.Frag) (m : Nat → Prop) (B H : Hp) (σ : List (Option V)) (ss : List Slot) (tv : List V) (ts : List Slot) : Prop := ∃ fp, HeldF K m B H fp σ ss tv ts
def kill (o : Own) : Slot → Slot
  | .view o' d => if o' = o then .no else .view o' d
  | s => s
def noView (o : Own) : List Slot → Bool
  | [] => true
  | .view o' _ :: r => decide (o' ≠ o) && noView o r
  | _ :: r => noView o r
def killT (n : Nat) : Slot → Slot
  | .view (.t k) d => if k < n then .view (.t k) d else .no
  | s => s
def fupd (fp : Own → List Addr) (o : Own) (F : List Addr) : Own → List Addr := fun o' => if o' = o then F else fp o'
theorem fupd_same {fp : Own → List Addr} {o : Own} {F : List Addr} : fupd fp o F o = F := if_pos rfl
theorem fupd_ne {fp : Own → List Addr} {o o' : Own} {F : List Addr} (h : o' ≠ o) : fupd fp o F o' = fp o' := if_neg h
theorem fupd_vt {fp : Own → List Addr} {k i : Nat} {F : List Addr} : fupd fp (.t k) F (.v i) = fp (.v i) := fupd_ne (fun z => Own.noConfusion z)
theorem fupd_tv {fp : Own → List Addr} {k i : Nat} {F : List Addr} : fupd fp (.v i) F (.t k) = fp (.t k) := fupd_ne (fun z => Own.noConfusion z)
theorem fupd_vv {fp : Own → List Addr} {j i : Nat} {F : List Addr} (h : j ≠ i) : fupd fp (.v i) F (.v j) = fp (.v j) := fupd_ne (fun z => h (Own.v.inj z))
theorem fupd_tt {fp : Own → List Addr} {j i : Nat} {F : List Addr} (h : j ≠ i) : fupd fp (.t i) F (.t j) = fp (.t j) := fupd_ne (fun z => h (Own.t.inj z))
def brings : Slot → List Addr → List Addr
  | .own _, F => F
  | _, _ => []
section
variable {K : PySem.W.Frag} {B H H' : Hp} {fp fp' : Own → List Addr} {m m' : Nat → Prop} {o o' : Own} {x : Option V} {s r : Slot} {σ : List (Option V)} {ss ts : List Slot} {tv : List V} {v w : V} {d d' : D} {F F' : List Addr}
theorem SlotOk.congr (h : SlotOk K B H fp m o x s) (e : fp' o = fp o) (k : ∀ o', ownOk m o' → fp' o' = fp o') : SlotOk K B H fp' m o x s := by
  cases s with
  | no => trivial
  | own d => obtain ⟨v, e1, e2⟩ := h; exact ⟨v, e1, by rw [e]; exact e2⟩
  | par d => exact h
  | view o' d => obtain ⟨z, v, e1, e2⟩ := h; exact ⟨z, v, e1, by rw [k o' z]; exact e2⟩
theorem SlotOk.congrV (h : SlotOk K B H fp m o x s) (n : ∀ d, s ≠ .own d) (k : ∀ o', ownOk m o' → (∃ d, s = .view o' d) → fp' o' = fp o') {o2 : Own} : SlotOk K B H fp' m o2 x s := by
  cases s with
  | no => trivial
  | own d => exact absurd rfl (n d)
  | par d => exact h
  | view o' d => obtain ⟨z, v, e1, e2⟩ := h; exact ⟨z, v, e1, by rw [k o' z ⟨d, rfl⟩]; exact e2⟩
theorem SlotOk.heap (h : SlotOk K B H fp m o x s) (tk : TK H H') (kb : Ex B H') (hb : Ex B H) (k1 : ∀ a ∈ fp o, H' a = H a) (k2 : ∀ o' d, s = .view o' d → ∀ a ∈ fp o', H' a = H a) : SlotOk K B H' fp m o x s := by
  cases s with
  | no => trivial
  | own d => obtain ⟨v, e1, e2⟩ := h; exact ⟨v, e1, e2.frame tk k1⟩
  | par d => exact h
  | view o' d =>
    obtain ⟨z, v, e1, e2⟩ := h
    refine ⟨z, v, e1, e2.mono (restr_mono tk fun a u p e => ⟨?_, p⟩)⟩
    rcases p with p | p
    · rw [k2 o' d rfl a p]; exact e
    · cases q : B a with
      | none => rw [q] at p; cases p
      | some y =>
        have e3 := hb a y q
        rw [e] at e3
        cases e3
        exact kb a _ q
theorem SlotOk.more (h : SlotOk K B H fp m o x s) (e : ∀ k, m k → m' k) : SlotOk K B H fp m' o x s := by
  cases s with
  | no => trivial
  | own d => exact h
  | par d => exact h
  | view o' d =>
    obtain ⟨z, q⟩ := h
    refine ⟨?_, q⟩
    cases o' with
    | v i => trivial
    | t k => exact e k z
theorem SlotOk.read (h : SlotOk K B H fp m o x s) (b : Ex B H) (e : s = .own d ∨ s = .par d ∨ ∃ o', s = .view o' d) : ∃ v, x = some v ∧ RepR K H d v := by
  rcases e with rfl | rfl | ⟨o', rfl⟩
  · obtain ⟨v, e1, e2⟩ := h; exact ⟨v, e1, e2.rep⟩
  · obtain ⟨v, e1, e2⟩ := h; exact ⟨v, e1, e2.mono b⟩
  · obtain ⟨_, v, e1, e2⟩ := h; exact ⟨v, e1, e2.mono restr_ex⟩
theorem HeldF.heap (h : HeldF K m B H fp σ ss tv ts) (tk : TK H H') (kb : Ex B H') (k : ∀ o a, a ∈ fp o → H' a = H a) : HeldF K m B H' fp σ ss tv ts :=
  ⟨kb, h.slen, h.tlen, h.mle, fun i s e => (h.var i s e).heap tk kb h.base (k _) fun _ _ _ => k _, fun i s e => (h.tmp i s e).heap tk kb h.base (k _) fun _ _ _ => k _, h.disj, h.nod, h.out, fun o a e => by
    obtain ⟨u, q, n⟩ := h.dom o a e
    exact ⟨u, (k o a e).trans q, n⟩⟩
theorem HeldF.ex (h : HeldF K m B H fp σ ss tv ts) (e : Ex H H') : HeldF K m B H' fp σ ss tv ts := h.heap e.tk (h.base.trans e) fun o a q => by
  obtain ⟨u, q, _⟩ := h.dom o a q
  rw [e a u q, q]
theorem Held.ex (h : Held K m B H σ ss tv ts) (e : Ex H H') : Held K m B H' σ ss tv ts := let ⟨fp, h⟩ := h; ⟨fp, h.ex e⟩
theorem rev_push {α : Type} {l : List α} {y x : α} {k : Nat} (e : (y :: l).reverse[k]? = some x) : (k < l.length ∧ l.reverse[k]? = some x) ∨ (k = l.length ∧ x = y) := by
  rw [List.reverse_cons] at e
  by_cases hk : k < l.length
  · rw [List.getElem?_append_left (by simpa using hk)] at e
    exact .inl ⟨hk, e⟩
  · rw [List.getElem?_append_right (by simpa using Nat.le_of_not_lt hk)] at e
    have z := List.getElem?_eq_some_iff.mp e
    obtain ⟨z1, z2⟩ := z
    simp only [List.length_reverse, List.length_singleton] at z1
    have z3 : k = l.length := by omega
    refine .inr ⟨z3, ?_⟩
    subst z3
    simpa using z2.symm
theorem rev_old {α : Type} {l : List α} {y : α} {k : Nat} (hk : k < l.length) : (y :: l).reverse[k]? = l.reverse[k]? := by
  rw [List.reverse_cons, List.getElem?_append_left (by simpa using hk)]
theorem rev_top {α : Type} {l : List α} {y : α} : (y :: l).reverse[l.length]? = some y := by
  rw [List.reverse_cons, List.getElem?_append_right (by simp)]
  simp
theorem HeldF.push (h : HeldF K m B H fp σ ss tv ts) (q : RepO K H d v F) (nd : F.Nodup) (dj : ∀ a ∈ F, ∀ o, o ≠ .t ts.length → a ∉ fp o) (ot : ∀ a ∈ F, B a = none) :
    HeldF K m B H (fupd fp (.t ts.length) F) σ ss (v :: tv) (.own d :: ts) := by
  have hm : ∀ o, ownOk m o → o ≠ .t ts.length := fun o z e => by
    subst e
    exact absurd (h.mle _ z) (Nat.lt_irrefl _)
  refine ⟨h.base, h.slen, by simp [h.tlen], h.mle.up, fun i s e => ?_, fun k s e => ?_, fun o o' a => ?_, fun o => ?_, fun o a => ?_, fun o a => ?_⟩
  · refine (h.var i s e).congr ?_ fun o' z => ?_
    · rw [fupd_vt]
    · rw [fupd_ne (hm o' z)]
  · rcases rev_push e with ⟨hk, e0⟩ | ⟨hk, e0⟩
    · have z := h.tmp k s e0
      rw [rev_old (by rw [h.tlen]; exact hk)]
      refine z.congr ?_ fun o' z => ?_
      · rw [fupd_tt (by omega)]
      · rw [fupd_ne (hm o' z)]
    · clear e
      subst hk e0
      refine ⟨v, ?_, ?_⟩
      · rw [← h.tlen]; exact rev_top
      · rw [fupd_same]; exact q
  · show a ∈ (if o = .t ts.length then F else fp o) → a ∈ (if o' = .t ts.length then F else fp o') → o = o'
    by_cases h1 : o = .t ts.length
    · by_cases h2 : o' = .t ts.length
      · intro _ _; rw [h1, h2]
      · rw [if_pos h1, if_neg h2]; exact fun q1 q2 => absurd q2 (dj a q1 o' h2)
    · by_cases h2 : o' = .t ts.length
      · rw [if_neg h1, if_pos h2]; exact fun q1 q2 => absurd q1 (dj a q2 o h1)
      · rw [if_neg h1, if_neg h2]; exact h.disj o o' a
  · show (if o = .t ts.length then F else fp o).Nodup
    split
    · exact nd
    · exact h.nod o
  · show a ∈ (if o = .t ts.length then F else fp o) → _
    split
    · exact ot a
    · exact h.out o a
  · show a ∈ (if o = .t ts.length then F else fp o) → _
    split
    · exact q.dom a
    · exact h.dom o a
theorem HeldF.fresh (h : HeldF K m B H fp σ ss tv ts) (e : Ex H H') (q : RepO K H' d v F) (nd : F.Nodup) (nw : ∀ a ∈ F, H a = none) :
    HeldF K m B H' (fupd fp (.t ts.length) F) σ ss (v :: tv) (.own d :: ts) :=
  (h.ex e).push q nd (fun a ha o _ z => by
    obtain ⟨u, q, _⟩ := h.dom o a z
    rw [nw a ha] at q
    cases q) fun a ha => by
      cases z : B a with
      | none => rfl
      | some u =>
        have q := h.base a u z
        rw [nw a ha] at q
        cases q
theorem HeldF.pushV (h : HeldF K m B H fp σ ss tv ts) (n : ∀ d, s ≠ .own d) (q : SlotOk K B H fp m o (some v) s) :
    HeldF K m B H (fupd fp (.t ts.length) []) σ ss (v :: tv) (s :: ts) := by
  have hm : ∀ o, ownOk m o → o ≠ .t ts.length := fun o z e => by
    subst e
    exact absurd (h.mle _ z) (Nat.lt_irrefl _)
  refine ⟨h.base, h.slen, by simp [h.tlen], h.mle.up, fun i s e => ?_, fun k s' e => ?_, fun o o' a => ?_, fun o => ?_, fun o a => ?_, fun o a => ?_⟩
  · refine (h.var i s e).congr ?_ fun o' z => ?_
    · rw [fupd_vt]
    · rw [fupd_ne (hm o' z)]
  · rcases rev_push e with ⟨hk, e0⟩ | ⟨hk, e0⟩
    · have z := h.tmp k s' e0
      rw [rev_old (by rw [h.tlen]; exact hk)]
      refine z.congr ?_ fun o' z => ?_
      · rw [fupd_tt (by omega)]
      · rw [fupd_ne (hm o' z)]
    · clear e
      subst hk e0
      rw [← h.tlen, rev_top]
      exact q.congrV n fun o' z _ => by rw [fupd_ne (by rw [h.tlen]; exact hm o' z)]
  · show a ∈ (if o = .t ts.length then [] else fp o) → a ∈ (if o' = .t ts.length then [] else fp o') → o = o'
    by_cases h1 : o = .t ts.length
    · rw [if_pos h1]; exact fun z => nomatch z
    · by_cases h2 : o' = .t ts.length
      · rw [if_pos h2]; exact fun _ z => nomatch z
      · rw [if_neg h1, if_neg h2]; exact h.disj o o' a
  · show (if o = .t ts.length then [] else fp o).Nodup
    split
    · exact List.nodup_nil
    · exact h.nod o
  · show a ∈ (if o = .t ts.length then [] else fp o) → _
    split
    · exact fun z => nomatch z
    · exact h.out o a
  · show a ∈ (if o = .t ts.length then [] else fp o) → _
    split
    · exact fun z => nomatch z
    · exact h.dom o a
theorem HeldF.pop (h : HeldF K m B H fp σ ss (v :: tv) (s :: ts)) (hm : Low m ts.length) : HeldF K m B H fp σ ss tv ts := by
  have hl : tv.length = ts.length := by have := h.tlen; simpa using this
  refine ⟨h.base, h.slen, hl, hm, h.var, fun k s' e => ?_, h.disj, h.nod, h.out, h.dom⟩
  have hk : k < ts.length := by
    have z := (List.getElem?_eq_some_iff.mp e).1
    simpa using z
  have z := h.tmp k s' (by rw [rev_old hk]; exact e)
  rw [rev_old (by rw [hl]; exact hk)] at z
  exact z
theorem HeldF.top (h : HeldF K m B H fp σ ss (v :: tv) (s :: ts)) : SlotOk K B H fp m (.t ts.length) (some v) s := by
  have hl : tv.length = ts.length := by have := h.tlen; simpa using this
  have z := h.tmp ts.length s rev_top
  rw [← hl, rev_top, hl] at z
  exact z
theorem Held.pop (h : Held K m B H σ ss (v :: tv) (s :: ts)) (hm : Low m ts.length) : Held K m B H σ ss tv ts := let ⟨fp, h⟩ := h; ⟨fp, h.pop hm⟩
theorem HeldF.pushF (h : HeldF K m B H fp σ ss tv ts) (q : RepO K H d v []) : HeldF K m B H (fupd fp (.t ts.length) []) σ ss (v :: tv) (.own d :: ts) :=
  h.push q List.nodup_nil (fun _ z => nomatch z) fun _ z => nomatch z
theorem Held.pushF (h : Held K m B H σ ss tv ts) (q : RepO K H d v []) : Held K m B H σ ss (v :: tv) (.own d :: ts) := let ⟨fp, h⟩ := h; ⟨_, h.pushF q⟩
theorem Held.fresh (h : Held K m B H σ ss tv ts) (e : Ex H H') (q : RepO K H' d v F) (nd : F.Nodup) (nw : ∀ a ∈ F, H a = none) : Held K m B H' σ ss (v :: tv) (.own d :: ts) := let ⟨fp, h⟩ := h; ⟨_, h.fresh e q nd nw⟩
theorem Held.pushV (h : Held K m B H σ ss tv ts) (n : ∀ d, s ≠ .own d) (q : ∀ fp, HeldF K m B H fp σ ss tv ts → ∃ o, SlotOk K B H fp m o (some v) s) : Held K m B H σ ss (v :: tv) (s :: ts) := let ⟨fp, h⟩ := h; let ⟨o, q⟩ := q fp h; ⟨_, h.pushV n q⟩
theorem noView_mem {o : Own} : ∀ {l : List Slot}, noView o l = true → ∀ s ∈ l, ∀ d, s ≠ .view o d
  | [], _, _, z, _ => nomatch z
  | .view o' d' :: r, h, s, z, d => by
    unfold noView at h
    rw [Bool.and_eq_true, decide_eq_true_eq] at h
    rcases List.mem_cons.mp z with rfl | z
    · intro q; injection q with q _; exact h.1 q
    · exact noView_mem h.2 s z d
  | .no :: r, h, s, z, d => by
    unfold noView at h
    rcases List.mem_cons.mp z with rfl | z
    · intro q; cases q
    · exact noView_mem h s z d
  | .own _ :: r, h, s, z, d => by
    unfold noView at h
    rcases List.mem_cons.mp z with rfl | z
    · intro q; cases q
    · exact noView_mem h s z d
  | .par _ :: r, h, s, z, d => by
    unfold noView at h
    rcases List.mem_cons.mp z with rfl | z
    · intro q; cases q
    · exact noView_mem h s z d
theorem kill_v {o o' : Own} {d : D} : kill o (.view o' d) = if o' = o then .no else .view o' d := rfl
theorem killT_t {n k : Nat} {d : D} : killT n (.view (.t k) d) = if k < n then .view (.t k) d else .no := rfl
theorem kill_view {o o' : Own} {s : Slot} {d : D} (e : kill o s = .view o' d) : s = .view o' d ∧ o' ≠ o := by
  cases s with
  | no => cases e
  | own _ => cases e
  | par _ => cases e
  | view o2 d2 =>
    rw [kill_v] at e
    split at e
    · cases e
    · rename_i n
      injection e with e1 e2
      subst e1 e2
      exact ⟨rfl, n⟩
theorem SlotOk.kill (h : SlotOk K B H fp m o x s) (o' : Own) : SlotOk K B H fp m o x (DL.kill o' s) := by
  cases s with
  | no => trivial
  | own _ => exact h
  | par _ => exact h
  | view o2 d2 =>
    rw [kill_v]
    split
    · trivial
    · exact h
theorem HeldF.assign (h : HeldF K m B H fp σ ss (v :: tv) (r :: ts)) (hm : Low m ts.length) {i : Nat} (hi : i < ss.length) (ht : noView (.v i) ts = true) (hr : ∀ d, r ≠ .view (.v i) d) :
    HeldF K m B H (fupd (fupd fp (.t ts.length) []) (.v i) (brings r (fp (.t ts.length)))) (σ.set i (some v)) ((ss.map (kill (.v i))).set i r) tv ts := by
  have hl : tv.length = ts.length := by have := h.tlen; simpa using this
  have hmt : ∀ o, ownOk m o → o ≠ .t ts.length := fun o z e => by
    subst e
    exact absurd (hm _ z) (Nat.lt_irrefl _)
  have sub : ∀ o a, a ∈ (if o = Own.v i then brings r (fp (.t ts.length)) else if o = Own.t ts.length then [] else fp o) → (o = .v i ∧ a ∈ fp (.t ts.length)) ∨ (o ≠ .v i ∧ o ≠ .t ts.length ∧ a ∈ fp o) := fun o a => by
    by_cases h1 : o = .v i
    · rw [if_pos h1]
      intro q
      refine .inl ⟨h1, ?_⟩
      cases r with
      | own d => exact q
      | no => exact nomatch q
      | par d => exact nomatch q
      | view o d => exact nomatch q
    · rw [if_neg h1]
      by_cases h2 : o = .t ts.length
      · rw [if_pos h2]; exact fun z => nomatch z
      · rw [if_neg h2]; exact fun q => .inr ⟨h1, h2, q⟩
  refine ⟨h.base, by simpa using h.slen, hl, hm, fun j s e => ?_, fun k s e => ?_, fun o o' a q1 q2 => ?_, fun o => ?_, fun o a q => ?_, fun o a q => ?_⟩
  · by_cases hj : j = i
    · subst hj
      rw [List.getElem?_set_self (by simpa using hi)] at e
      cases e
      have z := h.top
      have e1 : ((σ.set j (some v))[j]?).join = some v := by
        rw [List.getElem?_set_self (by rw [h.slen]; exact hi)]; rfl
      rw [e1]
      cases r with
      | no => trivial
      | own d =>
        obtain ⟨w, e2, e3⟩ := z
        refine ⟨w, e2, ?_⟩
        rw [fupd_same]
        exact e3
      | par d => exact z
      | view o' d =>
        obtain ⟨z1, w, e2, e3⟩ := z
        refine ⟨z1, w, e2, ?_⟩
        have n1 : o' ≠ .v j := fun z => hr d (by rw [z])
        rw [fupd_ne n1, fupd_ne (hmt o' z1)]
        exact e3
    · rw [List.getElem?_set_ne (Ne.symm hj), List.getElem?_map] at e
      rw [List.getElem?_set_ne (Ne.symm hj)]
      cases e1 : ss[j]? with
      | none => rw [e1] at e; cases e
      | some s1 =>
        rw [e1] at e
        have e2 : kill (.v i) s1 = s := Option.some.inj e
        have z := (h.var j s1 e1).kill (.v i)
        rw [e2] at z
        cases s with
        | no => trivial
        | par d => exact z
        | own d =>
          obtain ⟨w, e3, e4⟩ := z
          refine ⟨w, e3, ?_⟩
          rw [fupd_vv hj, fupd_vt]
          exact e4
        | view o' d =>
          obtain ⟨z1, w, e3, e4⟩ := z
          refine ⟨z1, w, e3, ?_⟩
          rw [fupd_ne (kill_view e2).2, fupd_ne (hmt o' z1)]
          exact e4
  · have hk : k < ts.length := by
      have z := (List.getElem?_eq_some_iff.mp e).1
      simpa using z
    have z := (h.pop hm).tmp k s e
    have ms : s ∈ ts := List.mem_reverse.mp (List.mem_of_getElem? e)
    cases s with
    | no => trivial
    | par d => exact z
    | own d =>
      obtain ⟨w, e3, e4⟩ := z
      refine ⟨w, e3, ?_⟩
      rw [fupd_tv, fupd_tt (by omega)]
      exact e4
    | view o' d =>
      obtain ⟨z1, w, e3, e4⟩ := z
      refine ⟨z1, w, e3, ?_⟩
      have n1 : o' ≠ .v i := fun z => noView_mem ht _ ms d (by rw [z])
      rw [fupd_ne n1, fupd_ne (hmt o' z1)]
      exact e4
  · rcases sub o a q1 with ⟨e1, p1⟩ | ⟨e1, e2, p1⟩
    · rcases sub o' a q2 with ⟨e3, p2⟩ | ⟨e3, e4, p2⟩
      · rw [e1, e3]
      · exact absurd (h.disj _ _ a p1 p2).symm e4
    · rcases sub o' a q2 with ⟨e3, p2⟩ | ⟨e3, e4, p2⟩
      · exact absurd (h.disj _ _ a p1 p2) e2
      · exact h.disj o o' a p1 p2
  · show (if o = Own.v i then brings r (fp (.t ts.length)) else if o = Own.t ts.length then [] else fp o).Nodup
    split
    · cases r with
      | own d => exact h.nod _
      | no => exact List.nodup_nil
      | par d => exact List.nodup_nil
      | view o d => exact List.nodup_nil
    · split
      · exact List.nodup_nil
      · exact h.nod o
  · rcases sub o a q with ⟨_, p⟩ | ⟨_, _, p⟩
    · exact h.out _ a p
    · exact h.out _ a p
  · rcases sub o a q with ⟨_, p⟩ | ⟨_, _, p⟩
    · exact h.dom _ a p
    · exact h.dom _ a p
theorem Held.assign (h : Held K m B H σ ss (v :: tv) (r :: ts)) (hm : Low m ts.length) {i : Nat} (hi : i < ss.length) (ht : noView (.v i) ts = true) (hr : ∀ d, r ≠ .view (.v i) d) :
    Held K m B H (σ.set i (some v)) ((ss.map (kill (.v i))).set i r) tv ts := let ⟨fp, h⟩ := h; ⟨_, h.assign hm hi ht hr⟩
theorem HeldF.change (h : HeldF K m B H fp σ ss tv ts) {i : Nat} (hx : (σ[i]?).join = some v) (hi : i < ss.length) (tk : TK H H')
    (keep : ∀ a o, a ∉ fp (.v i) → H a = some o → H' a = some o) (nw : RepO K H' d' v F') (nd : F'.Nodup) (dj : ∀ a ∈ F', a ∈ fp (.v i) ∨ ((∀ o, a ∉ fp o) ∧ B a = none)) (ht : noView (.v i) ts = true) :
    HeldF K m B H' (fupd fp (.v i) F') σ ((ss.map (kill (.v i))).set i (.own d')) tv ts := by
  have kb : Ex B H' := fun a u e => by
    refine keep a u (fun z => ?_) (h.base a u e)
    rw [h.out _ a z] at e
    cases e
  have kk : ∀ o, o ≠ .v i → ∀ a ∈ fp o, H' a = H a := fun o n a q => by
    obtain ⟨u, e, _⟩ := h.dom o a q
    rw [e]
    exact keep a u (fun z => n (h.disj _ _ a q z)) e
  have ob : ∀ a ∈ F', B a = none := fun a q => by
    rcases dj a q with z | ⟨_, z⟩
    · exact h.out _ a z
    · exact z
  have dd : ∀ o, o ≠ .v i → ∀ a ∈ F', a ∉ fp o := fun o n1 a q z => by
    rcases dj a q with p | ⟨p, _⟩
    · exact n1 (h.disj _ _ a z p)
    · exact p o z
  refine ⟨kb, by simpa using h.slen, h.tlen, h.mle, fun j s e => ?_, fun k s e => ?_, fun o o' a q1 q2 => ?_, fun o => ?_, fun o a => ?_, fun o a => ?_⟩
  · by_cases hj : j = i
    · subst hj
      rw [List.getElem?_set_self (by simpa using hi)] at e
      cases e
      refine ⟨v, hx, ?_⟩
      rw [fupd_same]
      exact nw
    · rw [List.getElem?_set_ne (Ne.symm hj), List.getElem?_map] at e
      cases e1 : ss[j]? with
      | none => rw [e1] at e; cases e
      | some s1 =>
        rw [e1] at e
        have e2 : kill (.v i) s1 = s := Option.some.inj e
        have z := (h.var j s1 e1).kill (.v i)
        rw [e2] at z
        have z2 : SlotOk K B H' fp m (.v j) ((σ[j]?).join) s := z.heap tk kb h.base (kk _ fun q => by injection q with q; exact hj q) fun o' d q => kk o' (kill_view (e2.trans q)).2
        cases s with
        | no => trivial
        | par d => exact z2
        | own d =>
          obtain ⟨w, e3, e4⟩ := z2
          refine ⟨w, e3, ?_⟩
          rw [fupd_vv hj]
          exact e4
        | view o' d =>
          obtain ⟨z1, w, e3, e4⟩ := z2
          refine ⟨z1, w, e3, ?_⟩
          rw [fupd_ne (kill_view e2).2]
          exact e4
  · have ms : s ∈ ts := List.mem_reverse.mp (List.mem_of_getElem? e)
    have z := h.tmp k s e
    have z2 : SlotOk K B H' fp m (.t k) (tv.reverse[k]?) s := z.heap tk kb h.base (kk _ fun q => nomatch q) fun o' d q => kk o' fun z => noView_mem ht _ ms d (by rw [q, z])
    cases s with
    | no => trivial
    | par d => exact z2
    | own d =>
      obtain ⟨w, e3, e4⟩ := z2
      refine ⟨w, e3, ?_⟩
      rw [fupd_tv]
      exact e4
    | view o' d =>
      obtain ⟨z1, w, e3, e4⟩ := z2
      refine ⟨z1, w, e3, ?_⟩
      have n1 : o' ≠ .v i := fun z => noView_mem ht _ ms d (by rw [z])
      rw [fupd_ne n1]
      exact e4
  · revert q1 q2
    show a ∈ (if o = Own.v i then F' else fp o) → a ∈ (if o' = Own.v i then F' else fp o') → o = o'
    by_cases h1 : o = .v i
    · by_cases h2 : o' = .v i
      · intro _ _; rw [h1, h2]
      · rw [if_pos h1, if_neg h2]
        exact fun q z => absurd z (dd o' h2 a q)
    · rw [if_neg h1]
      by_cases h2 : o' = .v i
      · rw [if_pos h2]; exact fun z q => absurd z (dd o h1 a q)
      · rw [if_neg h2]; exact h.disj o o' a
  · show (if o = Own.v i then F' else fp o).Nodup
    split
    · exact nd
    · exact h.nod o
  · show a ∈ (if o = Own.v i then F' else fp o) → _
    split
    · exact ob a
    · exact h.out o a
  · show a ∈ (if o = Own.v i then F' else fp o) → _
    split
    · exact nw.dom a
    · rename_i n1
      intro q
      obtain ⟨u, e, n⟩ := h.dom o a q
      exact ⟨u, by rw [kk o n1 a q]; exact e, n⟩
theorem HeldF.move (h : HeldF K m B H fp σ ss tv ts) {i : Nat} (hs : ss[i]? = some (.own d)) (ht : noView (.v i) ts = true) :
    ∃ v, σ[i]? = some (some v) ∧ HeldF K m B H (fupd (fupd fp (.v i) []) (.t ts.length) (fp (.v i))) σ ((ss.map (kill (.v i))).set i .no) (v :: tv) (.own d :: ts) := by
  obtain ⟨v, e1, e2⟩ := h.var i _ hs
  have ex : σ[i]? = some (some v) := by
    cases e : σ[i]? with
    | none => rw [e] at e1; cases e1
    | some y => rw [e] at e1; have z : y = some v := e1; rw [z]
  have hi : i < ss.length := (List.getElem?_eq_some_iff.mp hs).1
  have hmt : ∀ o, ownOk m o → o ≠ .t ts.length := fun o z e => by
    subst e
    exact absurd (h.mle _ z) (Nat.lt_irrefl _)
  have sub : ∀ o a, a ∈ (if o = Own.t ts.length then fp (.v i) else if o = Own.v i then [] else fp o) → (o = .t ts.length ∧ a ∈ fp (.v i)) ∨ (o ≠ .v i ∧ o ≠ .t ts.length ∧ a ∈ fp o) := fun o a => by
    by_cases h1 : o = .t ts.length
    · rw [if_pos h1]; exact fun q => .inl ⟨h1, q⟩
    · rw [if_neg h1]
      by_cases h2 : o = .v i
      · rw [if_pos h2]; exact fun z => nomatch z
      · rw [if_neg h2]; exact fun q => .inr ⟨h2, h1, q⟩
  refine ⟨v, ex, h.base, by simpa using h.slen, by simp [h.tlen], h.mle.up, fun j s e => ?_, fun k s e => ?_, fun o o' a q1 q2 => ?_, fun o => ?_, fun o a q => ?_, fun o a q => ?_⟩
  · by_cases hj : j = i
    · subst hj
      rw [List.getElem?_set_self (by simpa using hi)] at e
      cases e
      trivial
    · rw [List.getElem?_set_ne (Ne.symm hj), List.getElem?_map] at e
      cases e3 : ss[j]? with
      | none => rw [e3] at e; cases e
      | some s1 =>
        rw [e3] at e
        have e4 : kill (.v i) s1 = s := Option.some.inj e
        have z := (h.var j s1 e3).kill (.v i)
        rw [e4] at z
        cases s with
        | no => trivial
        | par d => exact z
        | own d =>
          obtain ⟨w, e5, e6⟩ := z
          refine ⟨w, e5, ?_⟩
          rw [fupd_vt, fupd_vv hj]
          exact e6
        | view o' d =>
          obtain ⟨z1, w, e5, e6⟩ := z
          refine ⟨z1, w, e5, ?_⟩
          rw [fupd_ne (hmt o' z1), fupd_ne (kill_view e4).2]
          exact e6
  · rcases rev_push e with ⟨hk, e0⟩ | ⟨hk, e0⟩
    · have z := h.tmp k s e0
      have ms : s ∈ ts := List.mem_reverse.mp (List.mem_of_getElem? e0)
      rw [rev_old (by rw [h.tlen]; exact hk)]
      cases s with
      | no => trivial
      | par d => exact z
      | own d =>
        obtain ⟨w, e5, e6⟩ := z
        refine ⟨w, e5, ?_⟩
        rw [fupd_tt (by omega), fupd_tv]
        exact e6
      | view o' d =>
        obtain ⟨z1, w, e5, e6⟩ := z
        refine ⟨z1, w, e5, ?_⟩
        have n1 : o' ≠ .v i := fun z => noView_mem ht _ ms d (by rw [z])
        rw [fupd_ne (hmt o' z1), fupd_ne n1]
        exact e6
    · clear e
      subst hk e0
      refine ⟨v, ?_, ?_⟩
      · rw [← h.tlen]; exact rev_top
      · rw [fupd_same]; exact e2
  · rcases sub o a q1 with ⟨e1, p1⟩ | ⟨e1, e2, p1⟩
    · rcases sub o' a q2 with ⟨e3, p2⟩ | ⟨e3, e4, p2⟩
      · rw [e1, e3]
      · exact absurd (h.disj _ _ a p2 p1) e3
    · rcases sub o' a q2 with ⟨e3, p2⟩ | ⟨e3, e4, p2⟩
      · exact absurd (h.disj _ _ a p1 p2) e1
      · exact h.disj o o' a p1 p2
  · show (if o = Own.t ts.length then fp (.v i) else if o = Own.v i then [] else fp o).Nodup
    split
    · exact h.nod _
    · split
      · exact List.nodup_nil
      · exact h.nod o
  · rcases sub o a q with ⟨_, p⟩ | ⟨_, _, p⟩
    · exact h.out _ a p
    · exact h.out _ a p
  · rcases sub o a q with ⟨_, p⟩ | ⟨_, _, p⟩
    · exact h.dom _ a p
    · exact h.dom _ a p
theorem Held.move (h : Held K m B H σ ss tv ts) {i : Nat} (hs : ss[i]? = some (.own d)) (ht : noView (.v i) ts = true) :
    ∃ v, σ[i]? = some (some v) ∧ Held K m B H σ ((ss.map (kill (.v i))).set i .no) (v :: tv) (.own d :: ts) := by
  obtain ⟨fp, h⟩ := h
  obtain ⟨v, e, q⟩ := h.move hs ht
  exact ⟨v, e, _, q⟩
theorem HeldF.more (h : HeldF K m B H fp σ ss tv ts) (e : ∀ k, m k → m' k) (e2 : Low m' ts.length) : HeldF K m' B H fp σ ss tv ts :=
  ⟨h.base, h.slen, h.tlen, e2, fun i s q => (h.var i s q).more e, fun i s q => (h.tmp i s q).more e, h.disj, h.nod, h.out, h.dom⟩
theorem SlotOk.less {n : Nat} (h : SlotOk K B H fp m' o x s) (e : ∀ k, m' k → k < n → m k) : SlotOk K B H fp m o x (killT n s) := by
  cases s with
  | no => trivial
  | own _ => exact h
  | par _ => exact h
  | view o2 d2 =>
    cases o2 with
    | v i => obtain ⟨_, q⟩ := h; exact ⟨trivial, q⟩
    | t k =>
      rw [killT_t]
      split
      · rename_i c
        obtain ⟨z, q⟩ := h
        exact ⟨e k z c, q⟩
      · trivial
def VOk (m : Nat → Prop) (ts : List Slot) : Prop := ∀ s ∈ ts, ∀ k d, s = .view (.t k) d → m k
theorem SlotOk.low (h : SlotOk K B H fp m' o x s) (e : ∀ k d, s = .view (.t k) d → m k) : SlotOk K B H fp m o x s := by
  cases s with
  | no => trivial
  | own _ => exact h
  | par _ => exact h
  | view o2 d2 =>
    obtain ⟨_, q⟩ := h
    refine ⟨?_, q⟩
    cases o2 with
    | v i => trivial
    | t k => exact e k d2 rfl
theorem HeldF.less {n : Nat} (h : HeldF K m' B H fp σ ss tv ts) (e1 : ∀ k, m' k → k < n → m k) (e2 : Low m ts.length) (e3 : VOk m ts) : HeldF K m B H fp σ (ss.map (killT n)) tv ts :=
  ⟨h.base, by simpa using h.slen, h.tlen, e2, fun i s q => by
    rw [List.getElem?_map] at q
    cases e4 : ss[i]? with
    | none => rw [e4] at q; cases q
    | some s1 =>
      rw [e4] at q
      have e2 : killT n s1 = s := Option.some.inj q
      rw [← e2]
      exact (h.var i s1 e4).less e1, fun i s q => (h.tmp i s q).low (e3 s (List.mem_reverse.mp (List.mem_of_getElem? q))), h.disj, h.nod, h.out, h.dom⟩
theorem HeldF.vok (h : HeldF K m B H fp σ ss tv ts) : VOk m ts := fun s hs k d e => by
  obtain ⟨j, hj⟩ := List.getElem?_of_mem (List.mem_reverse.mpr hs)
  have z := h.tmp j s hj
  subst e
  exact z.1
end
end DL
namespace DL
open PySem PySem.Spec PyProof.Rows L2
structure WEr (X : Cx) (e : Expr) (σ : L2.St) (H : Hp) (Q : VK) : Prop where
  run : ∀ pins s, Inv X pins σ H s → wpAny (model X.prog X.w) X.A (eval e X.env) (EP X pins σ Q) X.xe s
def wE (X : Cx) (e : Expr) : TE := WEr X e
structure WTr (X : Cx) (e : Expr) (σ : L2.St) (H : Hp) (Q : Bool → Hp → Prop) : Prop where
  run : ∀ pins s, Inv X pins σ H s → wpAny (model X.prog X.w) X.A (isTrue e X.env (eval e X.env)) (TP X pins σ Q) X.xe s
def wT (X : Cx) (e : Expr) : TT := WTr X e
structure WAr (X : Cx) (es : List Expr) (σ : L2.St) (H : Hp) (Q : List V → Hp → Prop) : Prop where
  run : ∀ pos pins s, Inv X pins σ H s → wpAny (model X.prog X.w) X.A (spliced (backTo pos (starEach es X.env))) (AP X pins σ Q) X.xe s
def wA (X : Cx) (es : List Expr) : TA := WAr X es
structure WSr (X : Cx) (st : Stmt) (D : Ends) (σ : L2.St) (H : Hp) : Prop where
  run : ∀ pins s, Inv X pins σ H s → wpAny (model X.prog X.w) X.A (exec st X.env) (SP X pins D) X.xe s
def wS (X : Cx) (st : Stmt) : TS := WSr X st
structure WSsr (X : Cx) (st : List Stmt) (D : Ends) (σ : L2.St) (H : Hp) : Prop where
  run : ∀ pins s, Inv X pins σ H s → wpAny (model X.prog X.w) X.A (execs st X.env) (SP X pins D) X.xe s
def wSs (X : Cx) (st : List Stmt) : TS := WSsr X st
structure WGr (X : Cx) (tg : Expr) (v : V) (σ : L2.St) (H : Hp) (Q : L2.St → Hp → Prop) : Prop where
  run : ∀ pins s u, Inv X pins σ H s → RelV v u → wpAny (model X.prog X.w) X.A (assign tg X.env u) (fun _ s' => ∃ σ' H', Inv X pins σ' H' s' ∧ Q σ' H') X.xe s
def wG (X : Cx) (tg : Expr) : TG := WGr X tg
structure WIr (X : Cx) (tg it : Expr) (σ : L2.St) (H : Hp) (R : It → Hp → Prop) : Prop where
  run : ∀ pins s, Inv X pins σ H s → wpAny (model X.prog X.w) X.A (eval it X.env) (fun v s1 => wpAny (model X.prog X.w) X.A (pyIter v) (PIE X pins σ tg R) X.xe s1) X.xe s
def wI (X : Cx) (tg it : Expr) : TI := WIr X tg it
def wTs (X : Cx) (ifs : List Expr) : TT := fun σ H Q => ∃ t, PTs X ifs t ∧ t σ H Q
section
variable {X : Cx} {e : Expr}
theorem pe_w : PE X e (wE X e) := ⟨fun pins s _ _ _ I h => h.run pins s I⟩
theorem pt_w : PT X e (wT X e) := ⟨fun pins s _ _ _ I h => h.run pins s I⟩
theorem pa_w {es : List Expr} : PA X es (wA X es) := ⟨fun pos pins s _ _ _ I h => h.run pos pins s I⟩
theorem ps_w {st : Stmt} : PS X st (wS X st) := ⟨fun pins s _ _ _ I h => h.run pins s I⟩
theorem pss_w {st : List Stmt} : PSs X st (wSs X st) := ⟨fun pins s _ _ _ I h => h.run pins s I⟩
theorem pg_w {tg : Expr} : PG X tg (wG X tg) := ⟨fun pins s _ _ _ u _ I r h => h.run pins s u I r⟩
theorem pi_w {tg it : Expr} : PI X tg it (wI X tg it) := ⟨fun pins s _ _ _ I h => h.run pins s I⟩
theorem toE {t : TE} {σ : L2.St} {H : Hp} {Q : VK} (p : PE X e t) (q : t σ H Q) : wE X e σ H Q := ⟨fun pins s I => p.run pins s σ H Q I q⟩
theorem toT {t : TT} {σ : L2.St} {H : Hp} {Q : Bool → Hp → Prop} (p : PT X e t) (q : t σ H Q) : wT X e σ H Q := ⟨fun pins s I => p.run pins s σ H Q I q⟩
theorem toA {es : List Expr} {t : TA} {σ : L2.St} {H : Hp} {Q : List V → Hp → Prop} (p : PA X es t) (q : t σ H Q) : wA X es σ H Q := ⟨fun pos pins s I => p.run pos pins s σ H Q I q⟩
theorem toS {st : Stmt} {t : TS} {σ : L2.St} {H : Hp} {D : Ends} (p : PS X st t) (q : t D σ H) : wS X st D σ H := ⟨fun pins s I => p.run pins s σ H D I q⟩
theorem toSs {st : List Stmt} {t : TS} {σ : L2.St} {H : Hp} {D : Ends} (p : PSs X st t) (q : t D σ H) : wSs X st D σ H := ⟨fun pins s I => p.run pins s σ H D I q⟩
theorem toG {tg : Expr} {t : TG} {v : V} {σ : L2.St} {H : Hp} {Q : L2.St → Hp → Prop} (p : PG X tg t) (q : t v σ H Q) : wG X tg v σ H Q := ⟨fun pins s u I r => p.run pins s σ H v u Q I r q⟩
theorem toI {tg it : Expr} {t : TI} {σ : L2.St} {H : Hp} {R : It → Hp → Prop} (p : PI X tg it t) (q : t σ H R) : wI X tg it σ H R := ⟨fun pins s I => p.run pins s σ H R I q⟩
end
def EV (X : Cx) (e : Expr) (ss ts : List Slot) (Φ : List Slot → Slot → Prop) : Prop :=
  ∀ m B σ tv H Q, Low m ts.length → Held X.K m B H σ ss tv ts → (∀ ss' r v H', Φ ss' r → Held X.K m B H' σ ss' (v :: tv) (r :: ts) → Q v H') → wE X e σ H Q
def TV (X : Cx) (e : Expr) (ss ts : List Slot) (Φ : List Slot → Bool → Prop) : Prop :=
  ∀ m B σ tv H Q, Low m ts.length → Held X.K m B H σ ss tv ts → (∀ ss' b H', Φ ss' b → Held X.K m B H' σ ss' tv ts → Q b H') → wT X e σ H Q
def AV (X : Cx) (es : List Expr) (ss ts : List Slot) (Φ : List Slot → List Slot → Prop) : Prop :=
  ∀ m B σ tv H Q, Low m ts.length → Held X.K m B H σ ss tv ts → (∀ ss' rs vs H', Φ ss' rs → vs.length = rs.length → rs.length = es.length → Held X.K m B H' σ ss' (vs.reverse ++ tv) (rs.reverse ++ ts) → Q vs H') → wA X es σ H Q
inductive El where
  | one (s : Slot) | two (s1 s2 : Slot)
def ElOk (K : PySem.W.Frag) (m : Nat → Prop) (B H : Hp) (σ : List (Option V)) (ss : List Slot) (tv : List V) (ts : List Slot) (x : V) : El → Prop
  | .one s => Held K m B H σ ss (x :: tv) (s :: ts)
  | .two s1 s2 => ∃ T x1 x2, x = .ref T ∧ SqT K H T [x1, x2] ∧ Held K m B H σ ss (x2 :: x1 :: tv) (s2 :: s1 :: ts)
def GV (X : Cx) (tg : Expr) (as : List Nat) (el : El) (ss ts : List Slot) (N : List Slot → Prop) : Prop :=
  ∀ m B σ tv H x Q, Low m ts.length → ElOk X.K m B H σ ss tv ts x el → (∀ ss' σ' H', N ss' → Held X.K m B H' σ' ss' tv ts → (∀ i, i ∉ as → σ'[i]? = σ[i]?) ∧ σ'.length = σ.length → Q σ' H') → wG X tg x σ H Q
def IterOk (K : PySem.W.Frag) (n : Nat) (J : It) (rs : List Slot) (rv : List V) (els : List El) : Prop :=
  ∀ m B H σ ss ev es tv ts, Held K m B H σ ss (ev ++ (rv ++ tv)) (es ++ (rs ++ ts)) → ev.length = es.length → ts.length = n → (∀ k, n ≤ k → k < n + rs.length → m k) →
    (∀ i el, els[i]? = some el → J.go i H ∧ ∀ x H', J.yld i H x H' → ElOk K m B H' σ ss (ev ++ (rv ++ tv)) (es ++ (rs ++ ts)) x el) ∧ ∀ i, els.length ≤ i → J.stop i H
def IV (X : Cx) (tg it : Expr) (ss ts : List Slot) (Φ : List Slot → List Slot → List El → Prop) : Prop :=
  ∀ m B σ tv H R, Low m ts.length → Held X.K m B H σ ss tv ts →
    (∀ ss' rs rv els J H', Φ ss' rs els → rv.length = rs.length → Held X.K m B H' σ ss' (rv ++ tv) (rs ++ ts) → IterOk X.K ts.length J rs rv els → R J H') → wI X tg it σ H R
structure DE where
  nx : List Slot → Prop := fun _ => False
  rt : List Slot → Slot → Prop := fun _ _ => False
  bk : List Slot → Prop := fun _ => False
  ct : List Slot → Prop := fun _ => False
@[reducible] def DE.thn (E : DE) (N : List Slot → Prop) : DE := ⟨N, E.rt, E.bk, E.ct⟩
@[reducible] def DE.turn (E : DE) (I : List Slot → Prop) (n : Nat) : DE := ⟨I, fun s r => ∃ d, r = .own d ∧ E.rt (s.map (killT n)) (.own d), fun s => E.nx (s.map (killT n)), I⟩
@[reducible] def DE.wh (E : DE) (I : List Slot → Prop) : DE := ⟨I, E.rt, E.nx, I⟩
structure EndsOk (K : PySem.W.Frag) (B : Hp) (fx : List Nat) (σ0 : List (Option V)) (tv : List V) (ts : List Slot) (E : DE) (D : Ends) : Prop where
  nx : ∀ ss σ H, E.nx ss → Held K (fun k => k < ts.length) B H σ ss tv ts → (∀ i, i ∈ fx → σ[i]? = σ0[i]?) → D.nx σ H
  rt : ∀ ss r σ v H, E.rt ss r → Held K (fun k => k < ts.length) B H σ ss (v :: tv) (r :: ts) → (∀ i, i ∈ fx → σ[i]? = σ0[i]?) → D.rt v H
  bk : ∀ ss σ H, E.bk ss → Held K (fun k => k < ts.length) B H σ ss tv ts → (∀ i, i ∈ fx → σ[i]? = σ0[i]?) → D.bk σ H
  ct : ∀ ss σ H, E.ct ss → Held K (fun k => k < ts.length) B H σ ss tv ts → (∀ i, i ∈ fx → σ[i]? = σ0[i]?) → D.ct σ H
def SV (X : Cx) (fx : List Nat) (sts : List Stmt) (ss ts : List Slot) (E : DE) : Prop :=
  ∀ B σ tv H D, Held X.K (fun k => k < ts.length) B H σ ss tv ts → EndsOk X.K B fx σ tv ts E D → wSs X sts D σ H
def S1 (X : Cx) (fx : List Nat) (st : Stmt) (ss ts : List Slot) (E : DE) : Prop :=
  ∀ B σ tv H D, Held X.K (fun k => k < ts.length) B H σ ss tv ts → EndsOk X.K B fx σ tv ts E D → wS X st D σ H
section
variable {X : Cx} {fx : List Nat} {ss ts : List Slot} {Φ Ψ : List Slot → Slot → Prop} {e a b c : Expr} {pos : Pos} {E : DE}
theorem EV.imp (h : EV X e ss ts Φ) (k : ∀ s r, Φ s r → Ψ s r) : EV X e ss ts Ψ := fun m B σ tv H Q hm hh q => h m B σ tv H Q hm hh fun s r v H' p => q s r v H' (k s r p)
section
variable {i : Nat} {x : Str} {d : D} {o : Own}
theorem ev_var (hN : X.N[i]? = some x) (hv : Vis X.env.scope x) (hs : ss[i]? = some (.own d)) (hf : d.flat = true) (q : Φ ss (.own d)) (hd : (x == ("__debug__" : Str)) = false := by decide) (hcd : (x == ("__classdict__" : Str)) = false := by decide) :
    EV X (.Name x pos) ss ts Φ := fun m B σ tv H Q hm h k => by
  refine toE (pe_var hN hv hd hcd) ?_
  obtain ⟨fp, h⟩ := h
  obtain ⟨v, e1, e2⟩ := h.var i _ hs
  have ex : σ[i]? = some (some v) := by
    cases e : σ[i]? with
    | none => rw [e] at e1; cases e1
    | some y => rw [e] at e1; have z : y = some v := e1; rw [z]
  rw [e2.nil_of hf] at e2
  exact ⟨v, ex, k ss _ v H q ⟨_, h.pushF e2⟩⟩
theorem ev_varP (hN : X.N[i]? = some x) (hv : Vis X.env.scope x) (hs : ss[i]? = some (.par d)) (q : Φ ss (.par d)) (hd : (x == ("__debug__" : Str)) = false := by decide) (hcd : (x == ("__classdict__" : Str)) = false := by decide) :
    EV X (.Name x pos) ss ts Φ := fun m B σ tv H Q hm h k => by
  refine toE (pe_var hN hv hd hcd) ?_
  obtain ⟨fp, h⟩ := h
  obtain ⟨v, e1, e2⟩ := h.var i _ hs
  have ex : σ[i]? = some (some v) := by
    cases e : σ[i]? with
    | none => rw [e] at e1; cases e1
    | some y => rw [e] at e1; have z : y = some v := e1; rw [z]
  exact ⟨v, ex, k ss _ v H q ⟨_, h.pushV (o := .v i) (fun _ z => nomatch z) ⟨v, rfl, e2⟩⟩⟩
theorem ev_varV (hN : X.N[i]? = some x) (hv : Vis X.env.scope x) (hs : ss[i]? = some (.view o d)) (q : Φ ss (.view o d)) (hd : (x == ("__debug__" : Str)) = false := by decide) (hcd : (x == ("__classdict__" : Str)) = false := by decide) :
    EV X (.Name x pos) ss ts Φ := fun m B σ tv H Q hm h k => by
  refine toE (pe_var hN hv hd hcd) ?_
  obtain ⟨fp, h⟩ := h
  obtain ⟨z, v, e1, e2⟩ := h.var i _ hs
  have ex : σ[i]? = some (some v) := by
    cases e : σ[i]? with
    | none => rw [e] at e1; cases e1
    | some y => rw [e] at e1; have z : y = some v := e1; rw [z]
  exact ⟨v, ex, k ss _ v H q ⟨_, h.pushV (o := .v i) (fun _ z => nomatch z) ⟨z, v, rfl, e2⟩⟩⟩
theorem ev_varL (hN : X.N[i]? = some x) (hv : Vis X.env.scope x) (hs : ss[i]? = some (.own d)) (q : Φ ss (.view (.v i) d)) (hd : (x == ("__debug__" : Str)) = false := by decide) (hcd : (x == ("__classdict__" : Str)) = false := by decide) :
    EV X (.Name x pos) ss ts Φ := fun m B σ tv H Q hm h k => by
  refine toE (pe_var hN hv hd hcd) ?_
  obtain ⟨fp, h⟩ := h
  obtain ⟨v, e1, e2⟩ := h.var i _ hs
  have ex : σ[i]? = some (some v) := by
    cases e : σ[i]? with
    | none => rw [e] at e1; cases e1
    | some y => rw [e] at e1; have z : y = some v := e1; rw [z]
  exact ⟨v, ex, k ss _ v H q ⟨_, h.pushV (o := .v i) (fun _ z => nomatch z) ⟨trivial, v, rfl, e2.toR fun a ha => .inl ha⟩⟩⟩
theorem ev_varM (hN : X.N[i]? = some x) (hv : Vis X.env.scope x) (hs : ss[i]? = some (.own d)) (ht : noView (.v i) ts = true) (q : Φ ((ss.map (kill (.v i))).set i .no) (.own d)) (hd : (x == ("__debug__" : Str)) = false := by decide) (hcd : (x == ("__classdict__" : Str)) = false := by decide) :
    EV X (.Name x pos) ss ts Φ := fun m B σ tv H Q hm h k => by
  refine toE (pe_var hN hv hd hcd) ?_
  obtain ⟨v, ex, h2⟩ := h.move hs ht
  exact ⟨v, ex, k _ _ v H q h2⟩
end
theorem ev_const {v : V} {d : D} (p : PE X e (tC v)) (r : ∀ H, RepO X.K H d v []) (q : Φ ss (.own d)) : EV X e ss ts Φ := fun m B σ tv H Q hm h k =>
  toE p (k ss _ v H q (h.pushF (r H)))
theorem ev_int {i j} (q : Φ ss (.own (.int i))) : EV X (.Constant (.int i) j pos) ss ts Φ := ev_const pe_int (fun H => by unfold RepO; exact ⟨rfl, rfl⟩) q
theorem ev_bl {i j} (q : Φ ss (.own (.bl i))) : EV X (.Constant (.bool i) j pos) ss ts Φ := ev_const pe_bl (fun H => by unfold RepO; exact ⟨rfl, rfl⟩) q
theorem ev_non {j} (q : Φ ss (.own .non)) : EV X (.Constant .none j pos) ss ts Φ := ev_const pe_non (fun H => by unfold RepO; exact ⟨rfl, rfl⟩) q
theorem ev_str {i j} (q : Φ ss (.own (.str i))) : EV X (.Constant (.str i) j pos) ss ts Φ := ev_const pe_str (fun H => by unfold RepO; exact ⟨rfl, rfl⟩) q
def Slot.is (s : Slot) (d : D) : Prop := s = .own d ∨ s = .par d ∨ ∃ o, s = .view o d
theorem Slot.is_own {d : D} : Slot.is (.own d) d := .inl rfl
theorem Slot.is_par {d : D} : Slot.is (.par d) d := .inr (.inl rfl)
theorem Slot.is_view {d : D} {o : Own} : Slot.is (.view o d) d := .inr (.inr ⟨o, rfl⟩)
section
variable {K : PySem.W.Frag} {m : Nat → Prop} {B H : Hp} {σ : List (Option V)} {tv : List V} {v w : V} {s r : Slot} {d d' : D}
theorem Held.top (h : Held K m B H σ ss (v :: tv) (s :: ts)) (e : s.is d) : RepR K H d v := by
  obtain ⟨fp, h⟩ := h
  obtain ⟨w, e1, e2⟩ := h.top.read h.base e
  cases e1
  exact e2
theorem Held.top2 (h : Held K m B H σ ss (w :: v :: tv) (r :: s :: ts)) (e : s.is d) : RepR K H d v := by
  obtain ⟨fp, h⟩ := h
  have hl : tv.length = ts.length := by have := h.tlen; simpa using this
  have z := h.tmp ts.length s (by rw [rev_old (by simp)]; exact rev_top)
  rw [rev_old (by simp [hl])] at z
  rw [← hl, rev_top] at z
  obtain ⟨u, e1, e2⟩ := z.read h.base e
  cases e1
  exact e2
theorem rep_int {i : Int} {v : V} : RepR K H (.int i) v ↔ v = .int i := by unfold RepR; exact Iff.rfl
theorem rep_bl {i : Bool} {v : V} : RepR K H (.bl i) v ↔ v = .bl i := by unfold RepR; exact Iff.rfl
theorem rep_str {i : Str} {v : V} : RepR K H (.str i) v ↔ v = .str i := by unfold RepR; exact Iff.rfl
theorem rep_non {v : V} : RepR K H .non v ↔ v = .non := by unfold RepR; exact Iff.rfl
theorem rep_raw {u v : V} : RepR K H (.raw u) v ↔ v = u := by unfold RepR; exact Iff.rfl
theorem o_int {i : Int} : RepO K H (.int i) (.int i) [] := by unfold RepO; exact ⟨rfl, rfl⟩
theorem o_bl {i : Bool} : RepO K H (.bl i) (.bl i) [] := by unfold RepO; exact ⟨rfl, rfl⟩
theorem o_str {i : Str} : RepO K H (.str i) (.str i) [] := by unfold RepO; exact ⟨rfl, rfl⟩
theorem o_non : RepO K H .non .non [] := by unfold RepO; exact ⟨rfl, rfl⟩
end
theorem ev_op2 {op : Operator} {r : R2} (ho : OpR X (binaryOp op) r) (h : EV X a ss ts fun s1 r1 => EV X b s1 (r1 :: ts) fun s2 r2 => ∃ d1 d2 d, r1.is d1 ∧ r2.is d2 ∧
      (∀ H x y, RepR X.K H d1 x → RepR X.K H d2 y → ∃ z, (∀ H, RepO X.K H d z []) ∧ ∀ Q : VK, Q z H → r x y H Q) ∧ Φ s2 (.own d)) : EV X (.BinOp a op b pos) ss ts Φ := fun m B σ tv H Q hm hh k => by
  refine toE (pe_op ho pe_w pe_w) ?_
  refine h m B σ tv H _ hm hh fun s1 r1 x H1 h1 hh1 => ?_
  refine h1 m B σ (x :: tv) H1 _ (hm.up) hh1 fun s2 r2 y H2 ⟨d1, d2, d, e1, e2, ru, q⟩ hh2 => ?_
  obtain ⟨z, rz, go⟩ := ru H2 x y (hh2.top2 e1) (hh2.top e2)
  exact go Q (k s2 _ z H2 q (((hh2.pop (hm.up)).pop hm).pushF (rz H2)))
theorem ev_cmp2 {op : CmpOp} {r : R2} (ho : OpR X (compareOp op) r) (h1 : behindInMarks op b = false) (h : EV X a ss ts fun s1 r1 => EV X b s1 (r1 :: ts) fun s2 r2 => ∃ d1 d2 d, r1.is d1 ∧ r2.is d2 ∧
      (∀ H x y, RepR X.K H d1 x → RepR X.K H d2 y → ∃ z, (∀ H, RepO X.K H d z []) ∧ ∀ Q : VK, Q z H → r x y H Q) ∧ Φ s2 (.own d)) : EV X (.Compare a [op] [b] pos) ss ts Φ := fun m B σ tv H Q hm hh k => by
  refine toE (pe_cmpR ho pe_w pe_w h1) ?_
  refine h m B σ tv H _ hm hh fun s1 r1 x H1 h1 hh1 => ?_
  refine h1 m B σ (x :: tv) H1 _ (hm.up) hh1 fun s2 r2 y H2 ⟨d1, d2, d, e1, e2, ru, q⟩ hh2 => ?_
  obtain ⟨z, rz, go⟩ := ru H2 x y (hh2.top2 e1) (hh2.top e2)
  exact go Q (k s2 _ z H2 q (((hh2.pop (hm.up)).pop hm).pushF (rz H2)))
theorem tv_cmp2 {op : CmpOp} {r : R2} {Θ : List Slot → Bool → Prop} (ho : OpR X (compareOp op) r) (h1 : behindInMarks op b = false) (h : EV X a ss ts fun s1 r1 => EV X b s1 (r1 :: ts) fun s2 r2 => ∃ d1 d2 t, r1.is d1 ∧ r2.is d2 ∧
      (∀ H x y, RepR X.K H d1 x → RepR X.K H d2 y → ∀ Q : VK, Q (.bl t) H → r x y H Q) ∧ Θ s2 t) : TV X (.Compare a [op] [b] pos) ss ts Θ := fun m B σ tv H Q hm hh k => by
  refine toT (pt_cmpR ho pe_w pe_w h1) ?_
  refine h m B σ tv H _ hm hh fun s1 r1 x H1 h1 hh1 => ?_
  refine h1 m B σ (x :: tv) H1 _ (hm.up) hh1 fun s2 r2 y H2 ⟨d1, d2, t, e1, e2, go, q⟩ hh2 => ?_
  exact go H2 x y (hh2.top2 e1) (hh2.top e2) _ ⟨t, rfl, k s2 t H2 q ((hh2.pop (hm.up)).pop hm)⟩
theorem ev_un {op : UnaryOp} {r : V → Hp → VK → Prop} (ho : UnR X (unaryOp op) r) (h : EV X a ss ts fun s1 r1 => ∃ d1 d, r1.is d1 ∧
      (∀ H x, RepR X.K H d1 x → ∃ z, (∀ H, RepO X.K H d z []) ∧ ∀ Q : VK, Q z H → r x H Q) ∧ Φ s1 (.own d)) : EV X (.UnaryOp op a pos) ss ts Φ := fun m B σ tv H Q hm hh k => by
  refine toE (pe_un ho pe_w) ?_
  refine h m B σ tv H _ hm hh fun s1 r1 x H1 ⟨d1, d, e1, ru, q⟩ hh1 => ?_
  obtain ⟨z, rz, go⟩ := ru H1 x (hh1.top e1)
  exact go Q (k s1 _ z H1 q ((hh1.pop hm).pushF (rz H1)))
variable {Θ : List Slot → Bool → Prop} {rest : List Expr}
theorem tv_val (h : EV X e ss ts fun s r => ∃ t, r.is (.bl t) ∧ Θ s t) (he : ∀ whole, isTrue e X.env whole = (do let v ← whole; standAt e.pos; holding [v] (truthy v)) := by intro _; rfl) : TV X e ss ts Θ := fun m B σ tv H Q hm hh k => by
  refine toT (pt_val pe_w he) ?_
  refine h m B σ tv H _ hm hh fun s r x H1 ⟨t, e1, q⟩ hh1 => ?_
  have z := hh1.top e1
  rw [rep_bl] at z
  exact ⟨t, z, k s t H1 q (hh1.pop hm)⟩
theorem tv_not (h : TV X a ss ts fun s t => Θ s (!t)) : TV X (.UnaryOp .Not a pos) ss ts Θ := fun m B σ tv H Q hm hh k => by
  refine toT (pt_not pt_w) ?_
  exact h m B σ tv H _ hm hh fun s t H1 q hh1 => k s _ H1 q hh1
def WV (X : Cx) (e : Expr) (ss ts : List Slot) (Φ : List Slot → Bool → Prop) : Prop :=
  ∀ m B σ tv H Q, Low m ts.length → Held X.K m B H σ ss tv ts → (∀ ss' b H', Φ ss' b → Held X.K m B H' σ ss' tv ts → Q b H') → ∃ t, PW X e t ∧ t σ H Q
def wW (X : Cx) (e : Expr) : TT := fun σ H Q => ∀ (whole : Sem Value) pins s, Inv X pins σ H s → wpAny (model X.prog X.w) X.A (isTrue e X.env whole) (TP X pins σ Q) X.xe s
theorem pw_w : PW X e (wW X e) := ⟨fun wh pins s _ _ _ I h => h wh pins s I⟩
theorem toW {t : TT} {σ : L2.St} {H : Hp} {Q : Bool → Hp → Prop} (p : PW X e t) (q : t σ H Q) : wW X e σ H Q := fun wh pins s I => p.run wh pins s σ H Q I q
theorem WV.w (h : WV X e ss ts Θ) {m : Nat → Prop} {B H : Hp} {σ : List (Option V)} {tv : List V} {Q : Bool → Hp → Prop} (hm : Low m ts.length) (hh : Held X.K m B H σ ss tv ts) (k : ∀ ss' b H', Θ ss' b → Held X.K m B H' σ ss' tv ts → Q b H') : wW X e σ H Q := by
  obtain ⟨t, p, q⟩ := h m B σ tv H Q hm hh k
  exact toW p q
theorem tv_w (h : WV X e ss ts Θ) : TV X e ss ts Θ := fun m B σ tv H Q hm hh k => toT pw_w.pt (h.w hm hh k)
theorem wv_and1 (h : TV X a ss ts Θ) : WV X (.BoolOp .And [a] pos) ss ts Θ := fun m B σ tv H Q hm hh k => ⟨_, pw_and1 pt_w, h m B σ tv H _ hm hh k⟩
theorem wv_or1 (h : TV X a ss ts Θ) : WV X (.BoolOp .Or [a] pos) ss ts Θ := fun m B σ tv H Q hm hh k => ⟨_, pw_or1 pt_w, h m B σ tv H _ hm hh k⟩
theorem wv_and (h : TV X a ss ts fun s t => (t = true → WV X (.BoolOp .And (b :: rest) pos) s ts Θ) ∧ (t = false → Θ s false)) : WV X (.BoolOp .And (a :: b :: rest) pos) ss ts Θ := fun m B σ tv H Q hm hh k => by
  refine ⟨_, pw_and pt_w pw_w, ?_⟩
  refine h m B σ tv H _ hm hh fun s t H1 ⟨q1, q2⟩ hh1 => ?_
  cases t with
  | true => exact iteT ((q1 rfl).w hm hh1 k)
  | false => exact iteF (k s false H1 (q2 rfl) hh1)
theorem wv_or (h : TV X a ss ts fun s t => (t = true → Θ s true) ∧ (t = false → WV X (.BoolOp .Or (b :: rest) pos) s ts Θ)) : WV X (.BoolOp .Or (a :: b :: rest) pos) ss ts Θ := fun m B σ tv H Q hm hh k => by
  refine ⟨_, pw_or pt_w pw_w, ?_⟩
  refine h m B σ tv H _ hm hh fun s t H1 ⟨q1, q2⟩ hh1 => ?_
  cases t with
  | true => exact iteT (k s true H1 (q1 rfl) hh1)
  | false => exact iteF ((q2 rfl).w hm hh1 k)
theorem ev_if (h : TV X c ss ts fun s t => (t = true → EV X a s ts Φ) ∧ (t = false → EV X b s ts Φ)) : EV X (.IfExp c a b pos) ss ts Φ := fun m B σ tv H Q hm hh k => by
  refine toE (pe_ifExp pt_w pe_w pe_w) ?_
  refine h m B σ tv H _ hm hh fun s t H1 ⟨q1, q2⟩ hh1 => ?_
  cases t with
  | true => exact iteT ((q1 rfl) m B σ tv H1 Q hm hh1 k)
  | false => exact iteF ((q2 rfl) m B σ tv H1 Q hm hh1 k)
variable {Ω : List Slot → List Slot → Prop} {es : List Expr}
theorem av_nil (q : Ω ss []) : AV X [] ss ts Ω := fun m B σ tv H Q hm hh k => toA pa_nil (k ss [] [] H q rfl rfl hh)
theorem av_cons (h : EV X e ss ts fun s r => AV X es s (r :: ts) fun s' rs => Ω s' (r :: rs)) (hs : starEach (e :: es) X.env = (false, eval e X.env) :: starEach es X.env := by rfl) : AV X (e :: es) ss ts Ω := fun m B σ tv H Q hm hh k => by
  refine toA (pa_cons pe_w pa_w hs) ?_
  refine h m B σ tv H _ hm hh fun s r x H1 h1 hh1 => ?_
  refine h1 m B σ (x :: tv) H1 _ (hm.up) hh1 fun s' rs vs H2 q l1 l2 hh2 => ?_
  refine k s' (r :: rs) (x :: vs) H2 q (by simp [l1]) (by simp [l2]) ?_
  rw [List.reverse_cons, List.reverse_cons, List.append_assoc, List.append_assoc]
  exact hh2
end
end DL
namespace DL
open PySem PySem.Spec PyProof.Rows L2
section
variable {K : PySem.W.Frag} {m m' : Nat → Prop} {B H H' : Hp} {fp fp' : Own → List Addr} {σ : List (Option V)} {ss ts rs : List Slot} {tv rv : List V} {v w : V} {s r : Slot} {d d' : D} {F : List Addr}
theorem Held.vok (h : Held K m B H σ ss tv ts) : VOk m ts := let ⟨_, h⟩ := h; h.vok
theorem Held.less {n : Nat} (h : Held K m' B H σ ss tv ts) (e1 : ∀ k, m' k → k < n → m k) (e2 : Low m ts.length) (e3 : VOk m ts) : Held K m B H σ (ss.map (killT n)) tv ts := let ⟨fp, h⟩ := h; ⟨fp, h.less e1 e2 e3⟩
theorem Held.more (h : Held K m B H σ ss tv ts) (e : ∀ k, m k → m' k) (e2 : Low m' ts.length) : Held K m' B H σ ss tv ts := let ⟨fp, h⟩ := h; ⟨fp, h.more e e2⟩
theorem Low.app {m : Nat → Prop} {ts : List Slot} (h : Low m ts.length) (rs : List Slot) : Low m (rs ++ ts).length := fun k q => by
  have := h k q
  rw [List.length_append]
  omega
theorem HeldF.popN : ∀ {rs : List Slot} {rv : List V}, rv.length = rs.length → HeldF K m B H fp σ ss (rv ++ tv) (rs ++ ts) → Low m ts.length → HeldF K m B H fp σ ss tv ts
  | [], [], _, h, _ => h
  | s :: rs, v :: rv, e, h, hm => HeldF.popN (rs := rs) (rv := rv) (by simpa using e) (h.pop (hm.app _)) hm
  | [], _ :: _, e, _, _ => nomatch e
  | _ :: _, [], e, _, _ => nomatch e
theorem Held.popN (e : rv.length = rs.length) (h : Held K m B H σ ss (rv ++ tv) (rs ++ ts)) (hm : Low m ts.length) : Held K m B H σ ss tv ts := let ⟨fp, h⟩ := h; ⟨fp, h.popN e hm⟩
theorem HeldF.clear (h : HeldF K m B H fp σ ss tv ts) {k : Nat} (hk : ts.length ≤ k) : HeldF K m B H (fupd fp (.t k) []) σ ss tv ts := by
  have hm : ∀ o, ownOk m o → o ≠ .t k := fun o z e => by
    subst e
    exact absurd (h.mle _ z) (Nat.not_lt_of_le hk)
  refine ⟨h.base, h.slen, h.tlen, h.mle, fun i s e => ?_, fun j s e => ?_, fun o o' a => ?_, fun o => ?_, fun o a => ?_, fun o a => ?_⟩
  · exact (h.var i s e).congr fupd_vt fun o' z => fupd_ne (hm o' z)
  · have hj : j < ts.length := by
      have z := (List.getElem?_eq_some_iff.mp e).1
      simpa using z
    exact (h.tmp j s e).congr (fupd_tt (by omega)) fun o' z => fupd_ne (hm o' z)
  · show a ∈ (if o = .t k then [] else fp o) → a ∈ (if o' = .t k then [] else fp o') → o = o'
    by_cases h1 : o = .t k
    · rw [if_pos h1]; exact fun z => nomatch z
    · by_cases h2 : o' = .t k
      · rw [if_pos h2]; exact fun _ z => nomatch z
      · rw [if_neg h1, if_neg h2]; exact h.disj o o' a
  · show (if o = .t k then [] else fp o).Nodup
    split
    · exact List.nodup_nil
    · exact h.nod o
  · show a ∈ (if o = .t k then [] else fp o) → _
    split
    · exact fun z => nomatch z
    · exact h.out o a
  · show a ∈ (if o = .t k then [] else fp o) → _
    split
    · exact fun z => nomatch z
    · exact h.dom o a
theorem HeldF.take (h : HeldF K m B H fp σ ss (v :: tv) (.own d :: ts)) (hm : Low m ts.length) :
    ∃ fp' F, HeldF K m B H fp' σ ss tv ts ∧ (∀ o a, a ∈ fp' o → a ∈ fp o) ∧ RepO K H d v F ∧ F.Nodup ∧ (∀ a ∈ F, ∀ o, a ∉ fp' o) ∧ (∀ a ∈ F, B a = none) ∧ ∀ a ∈ F, a ∈ fp (.t ts.length) := by
  obtain ⟨w, e1, e2⟩ := h.top
  cases e1
  refine ⟨_, _, (h.pop hm).clear (Nat.le_refl _), fun o a q => ?_, e2, h.nod _, fun a ha o q => ?_, fun a ha => h.out _ a ha, fun a ha => ha⟩
  · revert q
    show a ∈ (if o = .t ts.length then [] else fp o) → _
    split
    · exact fun z => nomatch z
    · exact fun z => z
  · revert q
    show a ∈ (if o = .t ts.length then [] else fp o) → _
    split
    · exact fun z => nomatch z
    · rename_i n
      exact fun z => n (h.disj _ _ a z ha)
theorem HeldF.gather : ∀ (ds : List D) {vs : List V} {fp : Own → List Addr}, vs.length = ds.length → HeldF K m B H fp σ ss (vs ++ tv) (ds.map Slot.own ++ ts) → Low m ts.length →
    ∃ fp' F, HeldF K m B H fp' σ ss tv ts ∧ (∀ o a, a ∈ fp' o → a ∈ fp o) ∧ RepOs K H ds.reverse vs.reverse F ∧ F.Nodup ∧ (∀ a ∈ F, ∀ o, a ∉ fp' o) ∧ (∀ a ∈ F, B a = none) ∧ ∀ a ∈ F, ∃ o, a ∈ fp o
  | [], [], fp, _, h, _ => ⟨fp, [], h, fun _ _ z => z, by unfold RepOs; exact ⟨rfl, rfl⟩, List.nodup_nil, (fun _ z => nomatch z), (fun _ z => nomatch z), (fun _ z => nomatch z)⟩
  | d :: ds, v :: vs, fp, e, h, hm => by
    obtain ⟨fp1, F1, h1, s1, r1, n1, o1, b1, t1⟩ := HeldF.take (ts := ds.map Slot.own ++ ts) (tv := vs ++ tv) h (hm.app _)
    obtain ⟨fp2, F2, h2, s2, r2, n2, o2, b2, t2⟩ := HeldF.gather ds (vs := vs) (by simpa using e) h1 hm
    refine ⟨fp2, F2 ++ F1, h2, fun o a z => s1 o a (s2 o a z), ?_, ?_, fun a ha o z => ?_, fun a ha => ?_, fun a ha => ?_⟩
    · rw [List.reverse_cons, List.reverse_cons]
      exact r2.append (RepOs.one r1)
    · refine List.nodup_append.mpr ⟨n2, n1, fun a ha b hb z => ?_⟩
      subst z
      obtain ⟨o, q⟩ := t2 a ha
      exact o1 a hb o q
    · rcases List.mem_append.mp ha with ha | ha
      · exact o2 a ha o z
      · exact o1 a ha o (s2 o a z)
    · rcases List.mem_append.mp ha with ha | ha
      · exact b2 a ha
      · exact b1 a ha
    · rcases List.mem_append.mp ha with ha | ha
      · obtain ⟨o, q⟩ := t2 a ha
        exact ⟨o, s1 o a q⟩
      · exact ⟨_, t1 a ha⟩
  | [], _ :: _, _, e, _, _ => nomatch e
  | _ :: _, [], _, e, _, _ => nomatch e
theorem HeldF.under (h : HeldF K m B H fp σ ss (v :: (rv ++ tv)) (.own d :: (rs ++ ts))) (e : rv.length = rs.length) (hm : Low m ts.length) : Held K m B H σ ss (v :: tv) (.own d :: ts) := by
  obtain ⟨fp1, F1, h1, s1, r1, n1, o1, b1, t1⟩ := HeldF.take h (hm.app _)
  exact ⟨_, (h1.popN e hm).push r1 n1 (fun a ha o _ => o1 a ha o) b1⟩
theorem Held.under (h : Held K m B H σ ss (v :: (rv ++ tv)) (.own d :: (rs ++ ts))) (e : rv.length = rs.length) (hm : Low m ts.length) : Held K m B H σ ss (v :: tv) (.own d :: ts) := let ⟨_, h⟩ := h; h.under e hm
theorem Held.flat (h : Held K m B H σ ss (v :: tv) (r :: ts)) (hm : Low m ts.length) (e : r.is d) (hf : d.flat = true) : Held K m B H σ ss (v :: tv) (.own d :: ts) := (h.pop hm).pushF ((h.top e).flatO hf)
end
theorem EndsOk.to {K : PySem.W.Frag} {B : Hp} {fx : List Nat} {σ σ' : List (Option V)} {tv : List V} {ts : List Slot} {E : DE} {D : Ends} (h : EndsOk K B fx σ tv ts E D) (e : ∀ i, i ∈ fx → σ'[i]? = σ[i]?) : EndsOk K B fx σ' tv ts E D :=
  ⟨fun ss s H q hh z => h.nx ss s H q hh fun i hi => (z i hi).trans (e i hi), fun ss r s v H q hh z => h.rt ss r s v H q hh fun i hi => (z i hi).trans (e i hi),
    fun ss s H q hh z => h.bk ss s H q hh fun i hi => (z i hi).trans (e i hi), fun ss s H q hh z => h.ct ss s H q hh fun i hi => (z i hi).trans (e i hi)⟩
section
variable {X : Cx} {fx : List Nat} {ss ts : List Slot} {Φ : List Slot → Slot → Prop} {e a b c tg it : Expr} {pos : Pos} {E : DE} {st : Stmt} {rest sts sts2 : List Stmt}
theorem isSome_lt {α : Type} {l : List α} {i : Nat} (h : (l[i]?).isSome = true) : i < l.length := by
  by_cases hi : i < l.length
  · exact hi
  · rw [List.getElem?_eq_none (Nat.le_of_not_lt hi)] at h
    cases h
theorem noView_tail {o : Own} {r : Slot} {l : List Slot} (h : noView o (r :: l) = true) : noView o l = true := by
  cases r <;> first | exact h | (unfold noView at h; rw [Bool.and_eq_true] at h; exact h.2)
theorem noView_head {o : Own} {r : Slot} {l : List Slot} (h : noView o (r :: l) = true) (d : D) : r ≠ .view o d := noView_mem h _ List.mem_cons_self d
theorem sv_nil (q : E.nx ss) : SV X fx [] ss ts E := fun B σ tv H D h k => toSs pss_nil (k.nx ss σ H q h fun _ _ => rfl)
theorem sv_cons (h : S1 X fx st ss ts (E.thn fun s => SV X fx rest s ts E)) : SV X fx (st :: rest) ss ts E := fun B σ tv H D hh k => by
  refine toSs (pss_cons ps_w pss_w) ?_
  refine h B σ tv H _ hh ⟨fun s σ' H' q h' z => ?_, k.rt, k.bk, k.ct⟩
  exact q B σ' tv H' D h' (k.to z)
theorem sv_one (h : S1 X fx st ss ts E) : SV X fx [st] ss ts E := fun B σ tv H D hh k => toSs (pss_one ps_w) (h B σ tv H D hh k)
theorem s1_expr (h : EV X e ss ts fun s _ => E.nx s) (hs : swapsWith e none pos.line X.env = pure false := by rfl) : S1 X fx (.Expr e pos) ss ts E := fun B σ tv H D hh k => by
  refine toS (ps_expr pe_w hs) ?_
  exact h (fun k => k < ts.length) B σ tv H _ Low.self hh fun s r v H' q h' => k.nx s σ H' q (h'.pop Low.self) fun _ _ => rfl
theorem s1_ret (h : EV X e ss ts fun s r => E.rt s r) : S1 X fx (.Return (some e) pos) ss ts E := fun B σ tv H D hh k => by
  refine toS (ps_ret pe_w) ?_
  exact h (fun k => k < ts.length) B σ tv H _ Low.self hh fun s r v H' q h' => k.rt s r σ v H' q h' fun _ _ => rfl
theorem s1_if (h : TV X c ss ts fun s t => (t = true → SV X fx sts s ts E) ∧ (t = false → SV X fx sts2 s ts E)) : S1 X fx (.If c sts sts2 pos) ss ts E := fun B σ tv H D hh k => by
  refine toS (ps_if pt_w pss_w pss_w) ?_
  refine h (fun k => k < ts.length) B σ tv H _ Low.self hh fun s t H1 ⟨q1, q2⟩ hh1 => ?_
  cases t with
  | true => exact iteT (q1 rfl B σ tv H1 D hh1 k)
  | false => exact iteF (q2 rfl B σ tv H1 D hh1 k)
theorem s1_set {i : Nat} {x : Str} {pos' : Pos} (hN : X.N.Nodup) (hi : X.N[i]? = some x) (hx : Loc X.env.scope x) (hfx : i ∉ fx) (hil : (ss[i]?).isSome = true)
    (h : EV X e ss ts fun s r => s.length = ss.length ∧ noView (.v i) (r :: ts) = true ∧ E.nx ((s.map (kill (.v i))).set i r)) (hs : swapsWith e (some (.Name x pos')) pos.line X.env = pure false := by rfl)
    (hf : X.fn x = true ∨ X.env.scope.names.lookup x = some .local := by first | exact .inl rfl | exact .inr rfl | assumption) : S1 X fx (.Assign [.Name x pos'] e pos) ss ts E := fun B σ tv H D hh k => by
  refine toS (ps_set hN hi hx pe_w hs hf) ?_
  refine h (fun k => k < ts.length) B σ tv H _ Low.self hh fun s r v H' ⟨l, n1, q⟩ h' => ?_
  refine k.nx _ _ H' q (h'.assign Low.self (by rw [l]; exact isSome_lt hil) (noView_tail n1) (noView_head n1)) fun j hj => ?_
  exact List.getElem?_set_ne (fun z => by subst z; exact hfx hj)
theorem gv_name {i : Nat} {x : Str} {s : Slot} {as : List Nat} {N : List Slot → Prop} (hN : X.N.Nodup) (hi : X.N[i]? = some x) (hx : Loc X.env.scope x) (ha : i ∈ as) (hil : (ss[i]?).isSome = true) (n1 : noView (.v i) (s :: ts) = true)
    (q : N ((ss.map (kill (.v i))).set i s)) (hf : X.fn x = true ∨ X.env.scope.names.lookup x = some .local := by first | exact .inl rfl | exact .inr rfl | assumption) : GV X (.Name x pos) as (.one s) ss ts N := fun m B σ tv H v Q hm hh k =>
  toG (pg_name hN hi hx hf) (k _ _ H q (Held.assign hh hm (isSome_lt hil) (noView_tail n1) (noView_head n1)) ⟨fun j hj => List.getElem?_set_ne (fun z => by subst z; exact hj ha), by simp⟩)
theorem gv_two {i j : Nat} {x y : Str} {s1 s2 : Slot} {as : List Nat} {k : Nat} {px py : Pos} {N : List Slot → Prop} (hc : X.calm = true) (hN : X.N.Nodup) (hi : X.N[i]? = some x) (hj : X.N[j]? = some y) (hij : i ≠ j) (hx : Loc X.env.scope x) (hy : Loc X.env.scope y)
    (ha : i ∈ as) (hb : j ∈ as) (hil : (ss[i]?).isSome = true) (hjl : (ss[j]?).isSome = true) (n1 : noView (.v i) (s1 :: ts) = true) (n2 : noView (.v j) (s2 :: s1 :: ts) = true)
    (q : N ((((ss.map (kill (.v j))).set j s2).map (kill (.v i))).set i s1))
    (hf : X.fn x = true ∨ X.env.scope.names.lookup x = some .local := by first | exact .inl rfl | exact .inr rfl | assumption) (hg : X.fn y = true ∨ X.env.scope.names.lookup y = some .local := by first | exact .inl rfl | exact .inr rfl | assumption)
    (hn : (assignEach [.Name x px, .Name y py] X.env).length = 2 := by rfl) (hst : (assignEach [.Name x px, .Name y py] X.env).findIdx? (·.1) = none := by rfl)
    (hs1 : (assignEach [.Name x px, .Name y py] X.env).map (·.2) = assign (.Name x px) X.env :: (assignEach [.Name y py] X.env).map (·.2) := by rfl) (hs2 : (assignEach [.Name y py] X.env).map (·.2) = assign (.Name y py) X.env :: (assignEach [] X.env).map (·.2) := by rfl) :
    GV X (.Tuple [.Name x px, .Name y py] k pos) as (.two s1 s2) ss ts N := fun m B σ tv H v Q hm hh kk => by
  obtain ⟨T, x1, x2, rfl, sq, h⟩ := hh
  refine toG (pg_tup hc (pgs_cons (pg_name hN hi hx hf) (pgs_cons (pg_name hN hj hy hg) pgs_nil hs2) hs1) hn hst) ?_
  refine ⟨T, [x1, x2], rfl, sq, rfl, x1, [x2], rfl, x2, [], rfl, rfl, ?_⟩
  have a1 := (List.mem_cons_self : s2 ∈ s2 :: s1 :: ts)
  have h1 := Held.assign h hm.up (isSome_lt hjl) (by
    cases s2 <;> first | exact n2 | (have z := n2; unfold noView at z; rw [Bool.and_eq_true] at z; exact z.2)) (fun d z => noView_mem n2 _ a1 d z)
  have h2 := Held.assign h1 hm (by simpa using isSome_lt hil) (by
    cases s1 <;> first | exact n1 | (have z := n1; unfold noView at z; rw [Bool.and_eq_true] at z; exact z.2)) (fun d z => noView_mem n1 _ List.mem_cons_self d z)
  have e : (σ.set i (some x1)).set j (some x2) = (σ.set j (some x2)).set i (some x1) := List.set_comm _ _ hij
  show Q ((σ.set i (some x1)).set j (some x2)) H
  rw [e]
  refine kk _ _ H q h2 ⟨fun l hl => ?_, by simp⟩
  rw [List.getElem?_set_ne (fun z => by subst z; exact hl ha), List.getElem?_set_ne (fun z => by subst z; exact hl hb)]
theorem s1_for {as : List Nat} (hp : PassesOwn (model X.prog X.w) X.A X.env X.xe) (hc : X.calm = true) (hfx : ∀ i, i ∈ fx → i ∉ as)
    (h : IV X tg it ss ts fun s1 rs els => ∃ I : Nat → List Slot → Prop, I 0 s1 ∧
      (∀ i el s, els[i]? = some el → I i s → GV X tg as el s (rs ++ ts) fun s' => SV X fx sts s' (rs ++ ts)
        (E.turn (I (i + 1)) ts.length)) ∧
      ∀ s, I els.length s → E.nx (s.map (killT ts.length)))
    (hs : ∀ x, foldedSetIterable it X.env x = pure x := by intro _; rfl) : S1 X fx (.For tg it sts [] pos) ss ts E := fun B σ tv H D hh k => by
  refine toS (ps_for hp hc pi_w pg_w pss_w hs) ?_
  refine h (fun k => k < ts.length) B σ tv H _ Low.self hh fun s1 rs rv els J H1 ⟨I, i0, step, fin⟩ rl h1 io => ?_
  have low := h1.vok
  have len : (rs ++ ts).length = ts.length + rs.length := by rw [List.length_append]; omega
  refine ⟨fun i n σ' H' => n = els.length - i ∧ i ≤ els.length ∧ (∀ i, i ∈ fx → σ'[i]? = σ[i]?) ∧ ∃ s, I i s ∧ Held X.K (fun k => k < (rs ++ ts).length) B H' σ' s (rv ++ tv) (rs ++ ts),
    ⟨_, rfl, Nat.zero_le _, fun _ _ => rfl, s1, i0, h1.more (fun k q => by omega) Low.self⟩, ?_⟩
  rintro i n σ' H' ⟨rfl, hi, hz, s, hI, h'⟩
  obtain ⟨go, stop⟩ := io _ _ _ _ _ [] [] _ _ h' rfl rfl (fun k _ q => by omega)
  have leave : ∀ {s σ2 H2}, Held X.K (fun k => k < (rs ++ ts).length) B H2 σ2 s (rv ++ tv) (rs ++ ts) → Held X.K (fun k => k < ts.length) B H2 σ2 (s.map (killT ts.length)) tv ts := fun h => (h.less (fun _ _ q => q) (Low.self.app rs) low).popN rl Low.self
  by_cases hlt : i < els.length
  · obtain ⟨el, he⟩ : ∃ el, els[i]? = some el := ⟨els[i], by simp [hlt]⟩
    obtain ⟨g1, g2⟩ := go i el he
    refine .inr ⟨g1, fun σ2 H2 => (∀ i, i ∈ fx → σ2[i]? = σ[i]?) ∧ ∃ s, I (i + 1) s ∧ Held X.K (fun k => k < (rs ++ ts).length) B H2 σ2 s (rv ++ tv) (rs ++ ts), fun σ2 H2 ⟨z2, q2⟩ => ⟨els.length - (i + 1), by omega, rfl, hlt, z2, q2⟩, fun x H2 y => ?_⟩
    refine step i el s he hI _ B σ' (rv ++ tv) H2 x _ Low.self (g2 x H2 y) fun s3 σ3 H3 q3 h3 z3 => ?_
    have z4 : ∀ i, i ∈ fx → σ3[i]? = σ[i]? := fun j hj => (z3.1 j (hfx j hj)).trans (hz j hj)
    refine q3 B σ3 (rv ++ tv) H3 _ h3 ⟨fun s5 σ5 H5 q5 h5 z5 => ⟨fun j hj => (z5 j hj).trans (z4 j hj), s5, q5, h5⟩, fun s5 r5 σ5 v5 H5 ⟨d5, e5, q5⟩ h5 z5 => ?_, fun s5 σ5 H5 q5 h5 z5 => k.nx _ σ5 H5 q5 (leave h5) fun j hj => (z5 j hj).trans (z4 j hj),
      fun s5 σ5 H5 q5 h5 z5 => ⟨fun j hj => (z5 j hj).trans (z4 j hj), s5, q5, h5⟩⟩
    subst e5
    refine k.rt _ _ σ5 v5 H5 q5 (Held.under (rv := rv) (rs := rs) (h5.less (m := fun k => k < ts.length) (n := ts.length) (fun _ _ q => q) (Low.self.app (.own d5 :: rs)) (fun s hs => by
      rcases List.mem_cons.mp hs with rfl | hs
      · exact fun _ _ z => nomatch z
      · exact low s hs)) rl Low.self) fun j hj => (z5 j hj).trans (z4 j hj)
  · have e : i = els.length := by omega
    subst e
    exact .inl ⟨stop _ (Nat.le_refl _), k.nx _ σ' H' (fin s hI) (leave h') hz⟩
theorem s1_while (I : Nat → List Slot → Prop) (hp : PassesOwn (model X.prog X.w) X.A X.env X.xe) (i0 : ∃ n, I n ss)
    (h : ∀ n s, I n s → TV X c s ts fun s' t => (t = true → SV X fx sts s' ts (E.wh fun s2 => ∃ n', n' < n ∧ I n' s2)) ∧ (t = false → E.nx s')) :
    S1 X fx (.While c sts [] pos) ss ts E := fun B σ tv H D hh k => by
  refine toS (ps_while hp pt_w pss_w) ?_
  obtain ⟨n0, i0⟩ := i0
  refine ⟨fun n σ' H' => (∀ i, i ∈ fx → σ'[i]? = σ[i]?) ∧ ∃ s, I n s ∧ Held X.K (fun k => k < ts.length) B H' σ' s tv ts, ⟨n0, fun _ _ => rfl, ss, i0, hh⟩, ?_⟩
  rintro n σ' H' ⟨z, s, hI, h'⟩
  refine h n s hI (fun k => k < ts.length) B σ' tv H' _ Low.self h' fun s1 t H1 ⟨q1, q2⟩ h1 => ?_
  cases t with
  | true =>
    refine iteT ⟨fun σ2 H2 => ∃ n', n' < n ∧ (∀ i, i ∈ fx → σ2[i]? = σ[i]?) ∧ ∃ s, I n' s ∧ Held X.K (fun k => k < ts.length) B H2 σ2 s tv ts, fun σ2 H2 q => q, ?_⟩
    refine q1 rfl B σ' tv H1 _ h1 ⟨fun s5 σ5 H5 ⟨n', l, q5⟩ h5 z5 => ⟨n', l, fun j hj => (z5 j hj).trans (z j hj), s5, q5, h5⟩, fun s5 r5 σ5 v5 H5 q5 h5 z5 => k.rt _ _ σ5 v5 H5 q5 h5 fun j hj => (z5 j hj).trans (z j hj),
      fun s5 σ5 H5 q5 h5 z5 => k.nx _ σ5 H5 q5 h5 fun j hj => (z5 j hj).trans (z j hj), fun s5 σ5 H5 ⟨n', l, q5⟩ h5 z5 => ⟨n', l, fun j hj => (z5 j hj).trans (z j hj), s5, q5, h5⟩⟩
  | false => exact iteF (k.nx _ σ' H1 (q2 rfl) h1 z)
theorem ev_tup {es : List Expr} {k : Nat} (h : AV X es ss ts fun s rs => ∃ ds, rs = ds.map Slot.own ∧ ds.length ≤ 1000 ∧ Φ s (.own (.tup ds))) (ht : ∀ t, PA X es t → PE X (.Tuple es k pos) (tTup t) := by intro t h; exact pe_tup h) : EV X (.Tuple es k pos) ss ts Φ := fun m B σ tv H Q hm hh kk => by
  refine toE (ht _ pa_w) ?_
  refine h m B σ tv H _ hm hh fun s rs vs H1 ⟨ds, e, hl, q⟩ l1 l2 hh1 => ?_
  subst e
  obtain ⟨fp, hf⟩ := hh1
  rw [← List.map_reverse] at hf
  obtain ⟨fp', F, h2, _, r2, n2, o2, b2, _⟩ := HeldF.gather ds.reverse (vs := vs.reverse) (by simpa using l1) hf hm
  rw [List.reverse_reverse, List.reverse_reverse] at r2
  have lv : vs.length = ds.length := by simpa using l1
  refine ⟨Nat.le_trans (by omega : vs.length ≤ 1000) (by decide), fun p hp => ?_⟩
  have ex := Ex.new (o := .tup vs) hp
  refine kk s _ (.ref p) _ q ⟨_, (h2.ex ex).push (F := F) ?_ n2 (fun a ha o _ => o2 a ha o) b2⟩
  unfold RepO
  exact ⟨p, vs, rfl, .inl (.inl upd_same), r2.frame ex.tk fun a ha => by
    obtain ⟨u, e, _⟩ := r2.dom a ha
    rw [e, ex a u e]⟩
theorem ev_lst {es : List Expr} {k : Pos} (h : AV X es ss ts fun s rs => ∃ ds, rs = ds.map Slot.own ∧ ds.length ≤ 1000 ∧ Φ s (.own (.lst ds))) : EV X (.List es k) ss ts Φ := fun m B σ tv H Q hm hh kk => by
  refine toE (pe_lst pa_w) ?_
  refine h m B σ tv H _ hm hh fun s rs vs H1 ⟨ds, e, hl, q⟩ l1 l2 hh1 => ?_
  subst e
  obtain ⟨fp, hf⟩ := hh1
  rw [← List.map_reverse] at hf
  obtain ⟨fp', F, h2, _, r2, n2, o2, b2, _⟩ := HeldF.gather ds.reverse (vs := vs.reverse) (by simpa using l1) hf hm
  rw [List.reverse_reverse, List.reverse_reverse] at r2
  have lv : vs.length = ds.length := by simpa using l1
  refine ⟨Nat.le_trans (by omega : vs.length ≤ 1000) (by decide), fun p hp => ?_⟩
  have ex := Ex.new (o := .lst vs) hp
  have np : ∀ o, p ∉ fp' o := fun o z => by
    obtain ⟨u, e, _⟩ := h2.dom o p z
    rw [hp] at e
    cases e
  have npF : p ∉ F := fun z => by
    obtain ⟨u, e, _⟩ := r2.dom p z
    rw [hp] at e
    cases e
  have pB : B p = none := by
    cases z : B p with
    | none => rfl
    | some u =>
      have q := h2.base p u z
      rw [hp] at q
      cases q
  refine kk s _ (.ref p) _ q ⟨_, (h2.ex ex).push (F := p :: F) ?_ (List.nodup_cons.mpr ⟨npF, n2⟩) (fun a ha o _ => ?_) fun a ha => ?_⟩
  · unfold RepO
    exact ⟨p, vs, F, rfl, upd_same, rfl, r2.frame ex.tk fun a ha => by
      obtain ⟨u, e, _⟩ := r2.dom a ha
      rw [e, ex a u e]⟩
  · rcases List.mem_cons.mp ha with rfl | ha
    · exact np o
    · exact o2 a ha o
  · rcases List.mem_cons.mp ha with rfl | ha
    · exact pB
    · exact b2 a ha
abbrev FSp := List Slot → (List Slot → D → Prop) → Prop
def spG (K : PySem.W.Frag) (F : FSp) : Sp := fun vs H Q _ => ∃ B ss, Held K (fun k => k < 0) B H (vs.map some) ss [] [] ∧ F ss fun ss' d => ∀ r H', Held K (fun k => k < 0) B H' (vs.map some) ss' [r] [.own d] → Q r H'
def fP (F : List D → (D → Prop) → Prop) : FSp := fun ss q => ∃ (ds : List D) (k : D → Prop), ss = ds.map Slot.par ∧ F ds k ∧ ∀ d, k d → q ss d
abbrev spP (K : PySem.W.Frag) (F : List D → (D → Prop) → Prop) : Sp := spG K (fP F)
theorem Held.args {K : PySem.W.Frag} {m : Nat → Prop} {B H : Hp} {σ : List (Option V)} {tv : List V} : ∀ {rs : List Slot} {vs : List V} {ds : List D}, vs.length = rs.length → Held K m B H σ ss (vs ++ tv) (rs ++ ts) → List.length rs = ds.length → (∀ i (h : i < rs.length) (h' : i < ds.length), rs[i].is ds[i]) → Low m ts.length → RepRs K H ds vs
  | [], [], [], _, _, _, _, _ => by unfold RepRs; rfl
  | r :: rs, v :: vs, d :: ds, e, h, l, q, hm => by
    unfold RepRs
    refine ⟨v, vs, rfl, Held.top h (q 0 (by simp) (by simp)), Held.args (rs := rs) (vs := vs) (ds := ds) (by simpa using e) (Held.pop h (hm.app _)) (by simpa using l) (fun i h1 h2 => ?_) hm⟩
    have := q (i + 1) (by simpa using h1) (by simpa using h2)
    simpa using this
  | [], _ :: _, _, e, _, _, _, _ => nomatch e
  | _ :: _, [], _, e, _, _, _, _ => nomatch e
  | _ :: _, _ :: _, [], _, _, l, _, _ => nomatch l
  | [], [], _ :: _, _, _, l, _, _ => nomatch l
theorem held_par {K : PySem.W.Frag} {H : Hp} {ds : List D} {vs : List V} (h : RepRs K H ds vs) : Held K (fun k => k < 0) H H (vs.map some) (ds.map Slot.par) [] [] := by
  refine ⟨fun _ => [], Ex.refl H, by simp [h.length], rfl, Low.self, fun i s e => ?_, (fun k s e => by simp at e), (fun _ _ _ z => nomatch z), (fun _ => List.nodup_nil), (fun _ _ z => nomatch z), (fun _ _ z => nomatch z)⟩
  rw [List.getElem?_map] at e
  cases e1 : ds[i]? with
  | none => rw [e1] at e; cases e
  | some d =>
    rw [e1] at e
    have e2 : Slot.par d = s := Option.some.inj e
    subst e2
    obtain ⟨w, e3, e4⟩ := h.get e1
    refine ⟨w, ?_, e4⟩
    rw [List.getElem?_map, e3]
    rfl
end
section
variable {P : Program} {w : World} {K : PySem.W.Frag} {mg : Str → Option Value} {base : Heap}
theorem fun_ok {CX : CXT} {x qual : Str} {st : Stmt} {dvs : List V} {f : Addr} {fd : FuncData} {N ps : List Str} {k : Nat} {F : FSp} (fx : List Nat) (Fn : FunD K x qual (defArgs st) (defBody st) (defScope st) dvs [] f fd) (S : FnScope N ps (defScope st))
    (len : ∀ ss q, F ss q → ss.length = ps.length)
    (hbody : ∀ (cdv : Value) (A : Around) (outer : List Env) (s : Shared) (H : Hp) (E : XK), Room k (A.deeper (envOfC qual (defScope st) s.heap.objs.size f cdv)) → ∀ ss q, F ss q →
      SV (cxOf CX P w K mg base N qual (defScope st) f cdv A outer s H E).nox fx (defBody st) (ss ++ List.replicate (N.length - ps.length) .no) []
        { nx := fun s => (∀ i, i < ps.length → i ∉ fx → ∃ d, ss[i]? = some (.par d)) ∧ q (ss.zipIdx.map fun p => if p.2 ∈ fx then (s[p.2]?).getD .no else p.1) .non,
          rt := fun s r => (∀ i, i < ps.length → i ∉ fx → ∃ d, ss[i]? = some (.par d)) ∧ ∃ d, r = .own d ∧ q (ss.zipIdx.map fun p => if p.2 ∈ fx then (s[p.2]?).getD .no else p.1) d }) :
    FnOk P w K mg base CX (k + 1) f fd ps (spG K F) := by
  refine Fn.ok S (fun vs H Q E h => ?_) fun cdv A outer s H vs Q E hr h => ?_
  · obtain ⟨B, ss, ⟨fp, hh⟩, hF⟩ := h
    have l1 := len ss _ hF
    have l2 := hh.slen
    rw [List.length_map] at l2
    omega
  · obtain ⟨B, ss, hh, hF⟩ := h
    have l1 := len ss _ hF
    obtain ⟨fp, hf⟩ := hh
    have l2 := hf.slen
    rw [List.length_map] at l2
    refine ⟨_, PSs.nox pss_w, ?_⟩
    have st0 : start N vs = vs.map some ++ List.replicate (N.length - vs.length) none := rfl
    have lv : vs.length = ps.length := by omega
    -- the entry
    have h0 : Held K (fun k => k < 0) B H (start N vs) (ss ++ List.replicate (N.length - ps.length) .no) [] [] := by
      refine ⟨fp, hf.base, ?_, rfl, Low.self, fun i s e => ?_, fun k s e => by simp at e, hf.disj, hf.nod, hf.out, hf.dom⟩
      · rw [st0, List.length_append, List.length_append, List.length_map, List.length_replicate, List.length_replicate, lv, l1]
      · by_cases hi : i < ss.length
        · rw [List.getElem?_append_left hi] at e
          rw [st0, List.getElem?_append_left (by simpa [l2] using hi)]
          exact hf.var i s e
        · rw [List.getElem?_append_right (Nat.le_of_not_lt hi)] at e
          have e2 : s = .no := by
            rw [List.getElem?_replicate] at e
            split at e
            · exact (Option.some.inj e).symm
            · cases e
          subst e2
          trivial
    -- what is handed back
    have back : ∀ (s2 : List Slot) (σ2 : List (Option V)) (H2 : Hp) (v : V) (d : D), (∀ i, i < ps.length → i ∉ fx → ∃ d, ss[i]? = some (.par d)) → Held K (fun k => k < 0) B H2 σ2 s2 [v] [.own d] → (∀ i, i ∈ fx → σ2[i]? = (start N vs)[i]?) →
        Held K (fun k => k < 0) B H2 (vs.map some) (ss.zipIdx.map fun p => if p.2 ∈ fx then (s2[p.2]?).getD .no else p.1) [v] [.own d] := by
      rintro s2 σ2 H2 v d hpar ⟨fp2, h2⟩ hz
      refine ⟨fp2, h2.base, by simp [l2], h2.tlen, fun _ z => absurd z (Nat.not_lt_zero _), fun i s e => ?_, h2.tmp, h2.disj, h2.nod, h2.out, h2.dom⟩
      rw [List.getElem?_map] at e
      cases e1 : (ss.zipIdx)[i]? with
      | none => rw [e1] at e; cases e
      | some p =>
        rw [e1] at e
        have e2 : (if p.2 ∈ fx then (s2[p.2]?).getD .no else p.1) = s := Option.some.inj e
        rw [List.getElem?_zipIdx] at e1
        cases e3 : ss[i]? with
        | none => rw [e3] at e1; cases e1
        | some s0 =>
          rw [e3] at e1
          have e4 : (s0, 0 + i) = p := Option.some.inj e1
          subst e4
          have hi : i < ss.length := (List.getElem?_eq_some_iff.mp e3).1
          simp only [Nat.zero_add] at e2
          by_cases hfx : i ∈ fx
          · rw [if_pos hfx] at e2
            have e5 : (vs.map some)[i]? = σ2[i]? := by
              rw [hz i hfx, st0, List.getElem?_append_left (by simpa [l2] using hi)]
            rw [e5]
            cases e6 : s2[i]? with
            | none =>
              rw [e6] at e2
              have e7 : Slot.no = s := e2
              subst e7
              trivial
            | some s3 =>
              rw [e6] at e2
              have e7 : s3 = s := e2
              subst e7
              exact h2.var i _ e6
          · rw [if_neg hfx] at e2
            subst e2
            obtain ⟨d0, q0⟩ := hpar i (by omega) hfx
            rw [e3] at q0
            cases q0
            obtain ⟨u, z1, z2⟩ := hf.var i _ e3
            exact ⟨u, z1, z2⟩
    refine hbody cdv A outer s H E hr ss _ hF B (start N vs) [] H _ h0 ⟨fun s2 σ2 H2 ⟨hp, q⟩ h2 z => ?_, fun s2 r σ2 v H2 ⟨hp, d, e, q⟩ h2 z => ?_, fun _ _ _ z => z.elim, fun _ _ _ z => z.elim⟩
    · exact q .non H2 (back s2 σ2 H2 .non .non hp (h2.pushF o_non) z)
    · subst e
      exact q v H2 (back s2 σ2 H2 v d hp h2 z)
theorem fun_okP {CX : CXT} {x qual : Str} {st : Stmt} {dvs : List V} {f : Addr} {fd : FuncData} {N ps : List Str} {k : Nat} {F : List D → (D → Prop) → Prop} (Fn : FunD K x qual (defArgs st) (defBody st) (defScope st) dvs [] f fd) (S : FnScope N ps (defScope st))
    (len : ∀ ds q, F ds q → ds.length = ps.length)
    (hbody : ∀ (cdv : Value) (A : Around) (outer : List Env) (s : Shared) (H : Hp) (E : XK), Room k (A.deeper (envOfC qual (defScope st) s.heap.objs.size f cdv)) → ∀ ds (q : D → Prop), F ds q →
      SV (cxOf CX P w K mg base N qual (defScope st) f cdv A outer s H E).nox [] (defBody st) (ds.map Slot.par ++ List.replicate (N.length - ps.length) .no) []
        { nx := fun _ => q .non, rt := fun _ r => ∃ d, r = .own d ∧ q d }) :
    FnOk P w K mg base CX (k + 1) f fd ps (spP K F) := by
  refine fun_ok [] Fn S (fun ss q ⟨ds, k, e, h, _⟩ => ?_) fun cdv A outer s H E hr ss q ⟨ds, k, e, h, kq⟩ => ?_
  · rw [e, List.length_map]
    exact len ds _ h
  · subst e
    have l := len ds _ h
    have hpar : ∀ i, i < ps.length → i ∉ ([] : List Nat) → ∃ d, (ds.map Slot.par)[i]? = some (.par d) := fun i hi _ => ⟨ds[i]'(by omega), by simp [show i < ds.length by omega]⟩
    have same : ∀ s : List Slot, ((ds.map Slot.par).zipIdx.map fun p => if p.2 ∈ ([] : List Nat) then (s[p.2]?).getD .no else p.1) = ds.map Slot.par := fun s => by
      refine List.ext_getElem? fun i => ?_
      rw [List.getElem?_map, List.getElem?_zipIdx]
      cases (ds.map Slot.par)[i]? with
      | none => rfl
      | some z => rfl
    intro B σ tv H0 D hh kk
    refine hbody cdv A outer s H E hr ds _ h B σ tv H0 D hh ⟨fun s2 σ2 H2 q2 h2 z => kk.nx s2 σ2 H2 ⟨hpar, by rw [same]; exact kq _ q2⟩ h2 z, fun s2 r σ2 v H2 ⟨d, e, q2⟩ h2 z => kk.rt s2 r σ2 v H2 ⟨hpar, d, e, by rw [same]; exact kq _ q2⟩ h2 z, fun _ _ _ z => z.elim, fun _ _ _ z => z.elim⟩
end
end DL
namespace DL
open PySem PySem.Spec PyProof.Rows L2
theorem rev_at {α : Type} {es ts : List α} {r : α} : (es ++ (r :: ts)).reverse[ts.length]? = some r := by
  rw [List.reverse_append, List.reverse_cons, List.append_assoc, List.getElem?_append_right (by simp)]
  simp
def sub (n : Nat) (r : Slot) (d : D) : Slot := match r with
  | .own _ => .view (.t n) d
  | .par _ => .par d
  | .view o _ => .view o d
  | .no => .no
theorem sub_own {n : Nat} {r : Slot} {d d' : D} : sub n r d ≠ .own d' := by
  cases r <;> exact fun z => nomatch z
section
variable {K : PySem.W.Frag} {m : Nat → Prop} {B H H' : Hp} {σ : List (Option V)} {ss ts rs es : List Slot} {tv rv ev vs : List V} {v w : V} {s r : Slot} {d d' : D} {ds : List D} {a : Addr}
theorem HeldF.at {fp : Own → List Addr} (h : HeldF K m B H fp σ ss (ev ++ (v :: tv)) (es ++ (r :: ts))) (e : ev.length = es.length) : SlotOk K B H fp m (.t ts.length) (some v) r := by
  have hl : tv.length = ts.length := by
    have z := h.tlen
    simp only [List.length_append, List.length_cons] at z
    omega
  have z := h.tmp ts.length r rev_at
  rw [← hl, rev_at, hl] at z
  exact z
theorem SlotOk.item {fp : Own → List Addr} {n : Nat} (h : SlotOk K B H fp m (.t n) (some v) r) (b : Ex B H) (hr : r.is (.lst ds)) (hn : m n) :
    ∃ a vs, v = .ref a ∧ H a = some (.lst vs) ∧ vs.length = ds.length ∧ ∀ (i : Nat) (d : D), ds[i]? = some d → ∃ w, vs[i]? = some w ∧ RepR K H d w ∧ SlotOk K B H fp m (.t n) (some w) (sub n r d) := by
  rcases hr with rfl | rfl | ⟨o', rfl⟩
  · obtain ⟨w, e1, e2⟩ := h
    cases e1
    have q := e2.toR (P := fun a => a ∈ fp (.t n) ∨ (B a).isSome = true) fun a ha => .inl ha
    unfold RepR at q
    obtain ⟨a, vs, rfl, e3, e4⟩ := q
    refine ⟨a, vs, rfl, restr_ex _ _ e3, e4.length, fun i d hd => ?_⟩
    obtain ⟨w, h1, h2⟩ := e4.get hd
    exact ⟨w, h1, h2.mono restr_ex, hn, w, rfl, h2⟩
  · obtain ⟨w, e1, e2⟩ := h
    cases e1
    unfold RepR at e2
    obtain ⟨a, vs, rfl, e3, e4⟩ := e2
    refine ⟨a, vs, rfl, b _ _ e3, e4.length, fun i d hd => ?_⟩
    obtain ⟨w, h1, h2⟩ := e4.get hd
    exact ⟨w, h1, h2.mono b, w, rfl, h2⟩
  · obtain ⟨z, w, e1, e2⟩ := h
    cases e1
    unfold RepR at e2
    obtain ⟨a, vs, rfl, e3, e4⟩ := e2
    refine ⟨a, vs, rfl, restr_ex _ _ e3, e4.length, fun i d hd => ?_⟩
    obtain ⟨w, h1, h2⟩ := e4.get hd
    exact ⟨w, h1, h2.mono restr_ex, z, w, rfl, h2⟩
theorem getElem?_lt {α : Type} {l : List α} {i : Nat} {x : α} (h : l[i]? = some x) : i < l.length := (List.getElem?_eq_some_iff.mp h).1
end
section
variable {X : Cx} {fx : List Nat} {ss ts : List Slot} {Φ : List Slot → Slot → Prop} {e a b c tg it : Expr} {es : List Expr} {pos p2 : Pos} {E : DE} {Ψ : List Slot → List Slot → List El → Prop}
theorem iv_range1 {a : Expr} {p : Pos} (hg : Gl X "range") (hm : X.mg "range" = none) (h : EV X a ss ts fun s r => ∃ j : Int, r.is (.int j) ∧ -(2 ^ 62) ≤ j ∧ j < 2 ^ 62 ∧ Ψ s [] ((List.range j.toNat).map fun k => .one (.own (.int ((k : Nat) : Int)))))
    (hs : starEach [a] X.env = [(false, eval a X.env)] := by rfl) : IV X tg (.Call (.Name "range" p) [a] [] pos) ss ts Ψ := fun m B σ tv H R hm' hh k => by
  refine toI (pi_range1 hg hm (pa_cons pe_w pa_nil hs) hs) ?_
  refine h m B σ tv H _ hm' hh fun s r x H1 ⟨j, e1, l, u, q⟩ h1 => ?_
  have z := h1.top e1
  rw [rep_int] at z
  refine ⟨j, by rw [z], l, u, k s [] [] _ _ H1 q rfl (h1.pop hm') ?_⟩
  intro m' B' H' σ' ss' ev es tv' ts' h' hlen hl hmm
  refine ⟨fun i el he => ?_, fun i hi => ?_⟩
  · rw [List.getElem?_map] at he
    cases e2 : (List.range j.toNat)[i]? with
    | none => rw [e2] at he; cases he
    | some k' =>
      rw [e2] at he
      have e3 : El.one (.own (.int ((k' : Nat) : Int))) = el := Option.some.inj he
      subst e3
      obtain ⟨hi, e4⟩ := List.getElem?_eq_some_iff.mp e2
      simp at e4 hi
      subst e4
      refine ⟨(by show i < j.toNat; omega), fun x H2 y => ?_⟩
      obtain ⟨y1, y2⟩ := y
      subst y1 y2
      have z : (0 : Int) + ((i : Nat) : Int) = ((i : Nat) : Int) := by omega
      show Held _ _ _ _ _ _ _ _
      rw [z]
      exact h'.pushF o_int
  · show j.toNat ≤ i
    simpa using hi
theorem iter_list {K : PySem.W.Frag} {n : Nat} {r : Slot} {a : Addr} {ds : List D} (hr : r.is (.lst ds)) (els : List El) (he : els.length = ds.length)
    (hel : ∀ (i : Nat) (d : D) (el : El), ds[i]? = some d → els[i]? = some el → (d.flat = true ∧ el = .one (.own d)) ∨ el = .one (sub n r d)) : IterOk K n (Itl K a) [r] [.ref a] els := by
  intro m' B' H' σ' ss' ev es tv' ts' h' hlen hl hmm
  obtain ⟨fp, hf⟩ := h'
  have hm' : m' n := hmm n (Nat.le_refl _) (by simp)
  have z := HeldF.at (v := .ref a) (r := r) (ts := ts') (tv := tv') hf hlen
  rw [hl] at z
  obtain ⟨a', vs, ea, e1, e2, e3⟩ := z.item hf.base hr hm'
  cases ea
  refine ⟨fun i el hi => ?_, fun i hi => ⟨vs, SqL.of e1, by omega⟩⟩
  have il := getElem?_lt hi
  obtain ⟨d, hd⟩ : ∃ d, ds[i]? = some d := ⟨ds[i]'(by omega), by simp [show i < ds.length by omega]⟩
  obtain ⟨w, h1, h2, h3⟩ := e3 i d hd
  refine ⟨⟨vs, w, SqL.of e1, h1⟩, fun x H2 y => ?_⟩
  obtain ⟨y1, y2⟩ := y
  subst y1
  have hx : x = w := by
    have := y2 vs (SqL.of e1)
    rw [h1] at this
    exact (Option.some.inj this).symm
  subst hx
  rcases hel i d el hd hi with ⟨fl, rfl⟩ | rfl
  · exact ⟨_, hf.pushF (h2.flatO fl)⟩
  · exact ⟨_, hf.pushV (fun _ => sub_own) h3⟩
theorem iv_list' {l : Expr} (h : EV X l ss ts fun s r => ∃ ds els, r.is (.lst ds) ∧ els.length = ds.length ∧ (∀ (i : Nat) (d : D) (el : El), ds[i]? = some d → els[i]? = some el → (d.flat = true ∧ el = .one (.own d)) ∨ el = .one (sub ts.length r d)) ∧ Ψ s [r] els) :
    IV X tg l ss ts Ψ := fun m B σ tv H R hm' hh k => by
  refine toI (pi_list pe_w) ?_
  refine h m B σ tv H _ hm' hh fun s r x H1 ⟨ds, els, e1, e2, e3, q⟩ h1 => ?_
  have z := h1.top e1
  unfold RepR at z
  obtain ⟨a, vs, rfl, z2, z3⟩ := z
  exact ⟨a, rfl, ⟨vs, SqL.of z2⟩, k s [r] [.ref a] els _ H1 q rfl h1 (iter_list e1 els e2 e3)⟩
theorem iv_listF {l : Expr} (h : EV X l ss ts fun s r => ∃ ds, r.is (.lst ds) ∧ (∀ d ∈ ds, d.flat = true) ∧ Ψ s [r] (ds.map fun d => .one (.own d))) : IV X tg l ss ts Ψ :=
  iv_list' (h.imp fun s r ⟨ds, e1, e2, q⟩ => ⟨ds, _, e1, by simp, fun i d el hd he => .inl ⟨e2 d (List.mem_of_getElem? hd), by
    rw [List.getElem?_map, hd] at he
    exact (Option.some.inj he).symm⟩, q⟩)
theorem iv_list {l : Expr} (h : EV X l ss ts fun s r => ∃ ds, r.is (.lst ds) ∧ Ψ s [r] (ds.map fun d => .one (sub ts.length r d))) : IV X tg l ss ts Ψ :=
  iv_list' (h.imp fun s r ⟨ds, e1, q⟩ => ⟨ds, _, e1, by simp, fun i d el hd he => .inr (by
    rw [List.getElem?_map, hd] at he
    exact (Option.some.inj he).symm), q⟩)
theorem iv_enum' {l : Expr} {p tpos : Pos} {elts : List Expr} {kk : Nat} (hg : Gl X "enumerate") (hm : X.mg "enumerate" = none)
    (h : EV X l ss ts fun s r => ∃ ds els, r.is (.lst ds) ∧ els.length = ds.length ∧ (∀ (i : Nat) (d : D) (el : El), ds[i]? = some d → els[i]? = some el → (d.flat = true ∧ el = .two (.own (.int ((i : Nat) : Int))) (.own d)) ∨ el = .two (.own (.int ((i : Nat) : Int))) (sub ts.length r d)) ∧ Ψ s [r] els)
    (hs : starEach [l] X.env = [(false, eval l X.env)] := by rfl) : IV X (.Tuple elts kk tpos) (.Call (.Name "enumerate" p) [l] [] pos) ss ts Ψ := fun m B σ tv H R hm' hh k => by
  refine toI (pi_enum hg hm (pa_cons pe_w pa_nil hs) hs) ?_
  refine h m B σ tv H _ hm' hh fun s r x H1 ⟨ds, els, e1, e2, hel, q⟩ h1 => ?_
  have z := h1.top e1
  unfold RepR at z
  obtain ⟨a, vs, rfl, z2, z3⟩ := z
  refine ⟨a, vs, rfl, SqL.of z2, k s [r] [.ref a] els _ H1 q rfl h1 ?_⟩
  intro m' B' H' σ' ss' ev es tv' ts' h' hlen hl hmm
  obtain ⟨fp, hf⟩ := h'
  have hm' : m' ts.length := hmm _ (Nat.le_refl _) (by simp)
  have z := HeldF.at (v := .ref a) (r := r) (ts := ts') (tv := tv') hf hlen
  rw [hl] at z
  obtain ⟨a', vs, ea, e1', e2', e3⟩ := z.item hf.base e1 hm'
  cases ea
  refine ⟨fun i el hi => ?_, fun i hi => ⟨vs, SqL.of e1', by omega⟩⟩
  have il := getElem?_lt hi
  obtain ⟨d, hd⟩ : ∃ d, ds[i]? = some d := ⟨ds[i]'(by omega), by simp [show i < ds.length by omega]⟩
  obtain ⟨w, h1, h2, h3⟩ := e3 i d hd
  refine ⟨⟨vs, w, SqL.of e1', h1⟩, fun x H2 y => ?_⟩
  obtain ⟨T, x2, ex, hT, eH, y2⟩ := y
  have hx : x2 = w := by
    have := y2 vs (SqL.of e1')
    rw [h1] at this
    exact (Option.some.inj this).symm
  subst hx ex eH
  have exx := Ex.new (o := .tup [.int ((i : Nat) : Int), x2]) hT
  have hf2 := (hf.ex exx).pushF (v := .int ((i : Nat) : Int)) (d := .int ((i : Nat) : Int)) o_int
  rcases hel i d el hd hi with ⟨fl, rfl⟩ | rfl
  · exact ⟨T, _, x2, rfl, .inl (.inl upd_same), _, hf2.pushF ((h2.mono exx).flatO fl)⟩
  · refine ⟨T, _, x2, rfl, .inl (.inl upd_same), _, hf2.pushV (o := .t ts.length) (fun _ => sub_own) ?_⟩
    refine (h3.heap exx.tk (hf.base.trans exx) hf.base ?_ ?_).congrV (fun _ => sub_own) fun o' z _ => fupd_ne fun zz => ?_
    · intro a' ha'
      obtain ⟨u, q, _⟩ := hf.dom _ a' ha'
      rw [exx a' u q, q]
    · intro o' d' _ a' ha'
      obtain ⟨u, q, _⟩ := hf.dom _ a' ha'
      rw [exx a' u q, q]
    · subst zz
      exact absurd (hf.mle _ z) (Nat.lt_irrefl _)
theorem iv_enum {l : Expr} {p tpos : Pos} {elts : List Expr} {kk : Nat} (hg : Gl X "enumerate") (hm : X.mg "enumerate" = none)
    (h : EV X l ss ts fun s r => ∃ ds, r.is (.lst ds) ∧ Ψ s [r] (ds.zipIdx.map fun p => .two (.own (.int ((p.2 : Nat) : Int))) (sub ts.length r p.1)))
    (hs : starEach [l] X.env = [(false, eval l X.env)] := by rfl) : IV X (.Tuple elts kk tpos) (.Call (.Name "enumerate" p) [l] [] pos) ss ts Ψ :=
  iv_enum' hg hm (h.imp fun s r ⟨ds, e1, q⟩ => ⟨ds, _, e1, by simp, fun i d el hd he => .inr (by
    rw [List.getElem?_map, List.getElem?_zipIdx, hd] at he
    have z := (Option.some.inj he).symm
    simpa using z), q⟩) hs
theorem iv_str {l : Expr} (h : EV X l ss ts fun s r => ∃ x, r.is (.str x) ∧ Ψ s [] (x.cps.toList.map fun c => .one (.own (.str ⟨#[c]⟩)))) : IV X tg l ss ts Ψ := fun m B σ tv H R hm' hh k => by
  refine toI (pi_str pe_w) ?_
  refine h m B σ tv H _ hm' hh fun s r v H1 ⟨x, e1, q⟩ h1 => ?_
  have z := h1.top e1
  rw [rep_str] at z
  refine ⟨x, z, k s [] [] _ _ H1 q rfl (h1.pop hm') ?_⟩
  intro m' B' H' σ' ss' ev es tv' ts' h' hlen hl hmm
  refine ⟨fun n el he => ?_, fun n hn => ?_⟩
  · rw [List.getElem?_map] at he
    cases e2 : (x.cps.toList)[n]? with
    | none => rw [e2] at he; cases he
    | some c =>
      rw [e2] at he
      have e3 : El.one (.own (.str ⟨#[c]⟩)) = el := Option.some.inj he
      subst e3
      have hi := getElem?_lt e2
      refine ⟨by show n < x.cps.size; simpa using hi, fun v' H2 y => ?_⟩
      obtain ⟨y1, c', y2, y3⟩ := y
      have e5 : c' = c := by
        rw [Array.getElem?_toList] at e2
        rw [e2] at y2
        exact (Option.some.inj y2).symm
      subst y1 y3 e5
      exact h'.pushF o_str
  · show x.cps.size ≤ n
    simpa using hn
def wipeS (vs : List Nat) (ss : List Slot) : List Slot := vs.foldl (fun s i => s.set i .no) ss
theorem wipeS_length : ∀ (vs : List Nat) (ss : List Slot), (wipeS vs ss).length = ss.length
  | [], _ => rfl
  | v :: vs, ss => by
    show (wipeS vs (ss.set v .no)).length = _
    rw [wipeS_length, List.length_set]
theorem wipeS_get : ∀ (vs : List Nat) (ss : List Slot) (i : Nat), (wipeS vs ss)[i]? = if i ∈ vs then (ss[i]?).map (fun _ => .no) else ss[i]?
  | [], ss, i => by rw [if_neg (by simp)]; rfl
  | v :: vs, ss, i => by
    show (wipeS vs (ss.set v .no))[i]? = _
    rw [wipeS_get vs _ i]
    by_cases h1 : i ∈ vs
    · rw [if_pos h1, if_pos (List.mem_cons_of_mem _ h1)]
      by_cases h2 : v = i
      · subst h2
        by_cases h3 : v < ss.length
        · rw [List.getElem?_set_self h3, List.getElem?_eq_getElem h3]; rfl
        · rw [List.getElem?_eq_none (by simpa using h3), List.getElem?_eq_none (by simpa using h3)]
      · rw [List.getElem?_set_ne h2]
    · rw [if_neg h1]
      by_cases h2 : v = i
      · subst h2
        rw [if_pos List.mem_cons_self]
        by_cases h3 : v < ss.length
        · rw [List.getElem?_set_self h3, List.getElem?_eq_getElem h3]; rfl
        · rw [List.getElem?_eq_none (by simpa using h3), List.getElem?_eq_none (by simpa using h3)]; rfl
      · rw [List.getElem?_set_ne h2, if_neg (by simp only [List.mem_cons, not_or]; exact ⟨fun z => h2 z.symm, h1⟩)]
theorem wipe_get : ∀ (vs : List Nat) (σ : L2.St) (i : Nat), (wipe σ vs)[i]? = if i ∈ vs then (σ[i]?).map (fun _ => none) else σ[i]?
  | [], σ, i => by rw [if_neg (by simp)]; rfl
  | v :: vs, σ, i => by
    unfold wipe
    by_cases h2 : v = i
    · subst h2
      rw [if_pos List.mem_cons_self]
      by_cases h3 : v < σ.length
      · rw [List.getElem?_set_self (by rw [wipe_length]; exact h3), List.getElem?_eq_getElem h3]; rfl
      · rw [List.getElem?_eq_none (by rw [List.length_set, wipe_length]; simpa using h3), List.getElem?_eq_none (by simpa using h3)]; rfl
    · rw [List.getElem?_set_ne h2, wipe_get vs σ i]
      by_cases h1 : i ∈ vs
      · rw [if_pos h1, if_pos (List.mem_cons_of_mem _ h1)]
      · rw [if_neg h1, if_neg (by simp only [List.mem_cons, not_or]; exact ⟨fun z => h2 z.symm, h1⟩)]
section
variable {K : PySem.W.Frag} {m : Nat → Prop} {B H H' : Hp} {σ σ' : List (Option V)} {tv : List V} {v : V} {d : D} {vs : List Nat}
theorem Held.other (h : Held K m B H σ ss tv ts) (l : σ'.length = σ.length) (e : ∀ i, i ∉ vs → σ'[i]? = σ[i]?) : Held K m B H σ' (wipeS vs ss) tv ts := by
  obtain ⟨fp, h⟩ := h
  refine ⟨fp, h.base, by rw [l, wipeS_length]; exact h.slen, h.tlen, h.mle, fun i s q => ?_, h.tmp, h.disj, h.nod, h.out, h.dom⟩
  rw [wipeS_get] at q
  by_cases hi : i ∈ vs
  · rw [if_pos hi] at q
    cases e1 : ss[i]? with
    | none => rw [e1] at q; cases q
    | some s0 =>
      rw [e1] at q
      have z : Slot.no = s := Option.some.inj q
      subst z
      trivial
  · rw [if_neg hi] at q
    rw [e i hi]
    exact h.var i s q
theorem HeldF.snoc {fp : Own → List Addr} {a : Addr} {acc : List D} (h : HeldF K m B H fp σ ss (v :: .ref a :: tv) (.own d :: .own (.lst acc) :: ts)) (hm : Low m ts.length) :
    ∃ vs, H a = some (.lst vs) ∧ vs.length = acc.length ∧ Held K m B (upd H a (.lst (vs ++ [v]))) σ ss (.ref a :: tv) (.own (.lst (acc ++ [d])) :: ts) := by
  obtain ⟨fp1, F1, h1, s1, r1, n1, o1, b1, _⟩ := h.take (hm.up)
  obtain ⟨fp2, F2, h2, s2, r2, n2, o2, b2, t2⟩ := h1.take hm
  unfold RepO at r2
  obtain ⟨a', vs, G, e0, e1, e2, e3⟩ := r2
  cases e0
  subst e2
  have n3 := List.nodup_cons.mp n2
  have tk : TK H (upd H a (.lst (vs ++ [v]))) := TK.upd e1 fun z => z
  have na : ∀ F : List Addr, a ∉ F → ∀ b ∈ F, upd H a (.lst (vs ++ [v])) b = H b := fun F z b hb => upd_ne fun q => z (q ▸ hb)
  have aF1 : a ∉ F1 := fun z => o1 a z _ (t2 a List.mem_cons_self)
  refine ⟨vs, e1, e3.reps.length, _, (h2.heap tk (fun b u q => ?_) fun o b hb => ?_).push (F := a :: (G ++ F1)) ?_ ?_ (fun b hb o _ => ?_) fun b hb => ?_⟩
  · have nb : b ≠ a := fun z => by
      subst z
      rw [b2 b List.mem_cons_self] at q
      cases q
    rw [upd_ne nb]
    exact h2.base b u q
  · exact upd_ne fun z => o2 a List.mem_cons_self o (by rw [← z]; exact hb)
  · unfold RepO
    exact ⟨a, vs ++ [v], G ++ F1, rfl, upd_same, rfl, (e3.frame tk (na G n3.1)).append (RepOs.one (r1.frame tk (na F1 aF1)))⟩
  · refine List.nodup_cons.mpr ⟨fun z => ?_, List.nodup_append.mpr ⟨n3.2, n1, fun b hb c hc z => ?_⟩⟩
    · rcases List.mem_append.mp z with z | z
      · exact n3.1 z
      · exact aF1 z
    · subst z
      exact o1 b hc _ (t2 b (List.mem_cons_of_mem _ hb))
  · rcases List.mem_cons.mp hb with rfl | hb
    · exact o2 b List.mem_cons_self o
    · rcases List.mem_append.mp hb with hb | hb
      · exact o2 b (List.mem_cons_of_mem _ hb) o
      · exact fun z => o1 b hb o (s2 o b z)
  · rcases List.mem_cons.mp hb with rfl | hb
    · exact b2 b List.mem_cons_self
    · rcases List.mem_append.mp hb with hb | hb
      · exact b2 b (List.mem_cons_of_mem _ hb)
      · exact b1 b hb
end
def TsV (X : Cx) (ifs : List Expr) (ss ts : List Slot) (Θ : List Slot → Bool → Prop) : Prop :=
  ∀ m B σ tv H Q, Low m ts.length → Held X.K m B H σ ss tv ts → (∀ ss' b H', Θ ss' b → Held X.K m B H' σ ss' tv ts → Q b H') → wTs X ifs σ H Q
theorem tsv_nil {Θ : List Slot → Bool → Prop} (q : Θ ss true) : TsV X [] ss ts Θ := fun m B σ tv H Q hm hh k => ⟨_, pts_nil, k ss true H q hh⟩
theorem pts_w {ifs : List Expr} : PTs X ifs (wTs X ifs) := ⟨fun pins s σ H Q I ⟨t, p, q⟩ => p.run pins s σ H Q I q⟩
def LcTurn (X : Cx) (elt tg : Expr) (ifs : List Expr) (scope : Scope) (vs : List Nat) (el : El) (s : List Slot) (ts : List Slot) (acc : List D) (N : List Slot → List D → Prop) : Prop :=
  ∀ s0 H0 C cl fp, GV (X.blk s0 H0 scope (compEnvC scope cl C X.env) fp) tg vs el s (.own (.lst acc) :: ts) fun s1 =>
    ∀ s0 H0 C cl fp, TsV (X.blk s0 H0 scope (compEnvC scope cl C X.env) fp) ifs s1 (.own (.lst acc) :: ts) fun s2 t =>
      (t = true → ∀ s0 H0 C cl fp, EV (X.blk s0 H0 scope (compEnvC scope cl C X.env) fp) elt s2 (.own (.lst acc) :: ts) fun s3 r => ∃ d, r = .own d ∧ acc.length < 1000000 ∧ N (wipeS vs s3) (acc ++ [d])) ∧
      (t = false → N (wipeS vs s2) acc)
theorem lc_all {elt iter : Expr} {ifs : List Expr} {scope : Scope} {vs : List Nat}
    (h : IV X tg iter ss ts fun s1 rs els => ∃ I : Nat → List Slot → List D → Prop, I 0 (wipeS vs s1) [] ∧
      (∀ i el s acc, els[i]? = some el → I i s acc → LcTurn X elt tg ifs scope vs el s (rs ++ ts) acc (I (i + 1))) ∧ ∀ s acc, I els.length s acc → Φ (s.map (killT ts.length)) (.own (.lst acc)))
    {m : Nat → Prop} {B : Hp} {σ : L2.St} {tv : List V} {H : Hp} {Q : VK} (hm : Low m ts.length) (hh : Held X.K m B H σ ss tv ts) (k : ∀ ss' r v H', Φ ss' r → Held X.K m B H' σ ss' (v :: tv) (r :: ts) → Q v H') :
    tLc (wI X tg iter) (fun v σ H Q => ∀ s0 H0 C cl fp, wG (X.blk s0 H0 scope (compEnvC scope cl C X.env) fp) tg v σ H Q) (fun σ H Q => ∀ s0 H0 C cl fp, wTs (X.blk s0 H0 scope (compEnvC scope cl C X.env) fp) ifs σ H Q)
      (fun σ H Q => ∀ s0 H0 C cl fp, wE (X.blk s0 H0 scope (compEnvC scope cl C X.env) fp) elt σ H Q) vs σ H Q := by
  refine h m B σ tv H _ hm hh fun s1 rs rv els J H1 ⟨I, i0, step, fin⟩ rl h1 io D hD => ?_
  have vk := h1.vok
  have wl : (wipe σ vs).length = σ.length := wipe_length σ vs
  have we : ∀ i, i ∉ vs → (wipe σ vs)[i]? = σ[i]? := fun i hi => by rw [wipe_get, if_neg hi]
  have low' : Low (fun k => m k ∨ (ts.length ≤ k ∧ k < ts.length + rs.length)) (rs ++ ts).length := fun k q => by
    rw [List.length_append]
    rcases q with q | q
    · have := hm k q
      omega
    · omega
  have hw : Held X.K (fun k => m k ∨ (ts.length ≤ k ∧ k < ts.length + rs.length)) B H1 (wipe σ vs) (wipeS vs s1) (rv ++ tv) (rs ++ ts) := (h1.more (fun k q => .inl q) low').other wl we
  have ex := Ex.new (o := .lst []) hD
  have hD0 : Held X.K (fun k => m k ∨ (ts.length ≤ k ∧ k < ts.length + rs.length)) B (upd H1 D (.lst [])) (wipe σ vs) (wipeS vs s1) (.ref D :: (rv ++ tv)) (.own (.lst []) :: (rs ++ ts)) :=
    hw.fresh ex (F := [D]) (by unfold RepO; exact ⟨D, [], [], rfl, upd_same, rfl, by unfold RepOs; exact ⟨rfl, rfl⟩⟩) (by simp) fun a ha => by
      rw [List.mem_singleton.mp ha]
      exact hD
  refine ⟨fun i n H' => n = els.length - i ∧ i ≤ els.length ∧ ∃ s acc, I i s acc ∧ (∀ j, j ∈ vs → s[j]? = some .no ∨ s[j]? = none) ∧
    Held X.K (fun k => m k ∨ (ts.length ≤ k ∧ k < ts.length + rs.length)) B H' (wipe σ vs) s (.ref D :: (rv ++ tv)) (.own (.lst acc) :: (rs ++ ts)), ⟨_, rfl, Nat.zero_le _, _, _, i0, fun j hj => ?_, hD0⟩, ?_⟩
  · rw [wipeS_get, if_pos hj]
    cases s1[j]? with
    | none => exact .inr rfl
    | some _ => exact .inl rfl
  rintro i n H' ⟨rfl, hi, s, acc, hI, hno, h'⟩
  obtain ⟨go, stop⟩ := io _ _ _ _ _ [.ref D] [.own (.lst acc)] _ _ h' rfl rfl fun k q1 q2 => .inr ⟨q1, q2⟩
  by_cases hlt : i < els.length
  · obtain ⟨el, he⟩ : ∃ el, els[i]? = some el := ⟨els[i], by simp [hlt]⟩
    obtain ⟨g1, g2⟩ := go i el he
    refine .inr ⟨g1, fun H2 => ∃ s acc, I (i + 1) s acc ∧ (∀ j, j ∈ vs → s[j]? = some .no ∨ s[j]? = none) ∧
      Held X.K (fun k => m k ∨ (ts.length ≤ k ∧ k < ts.length + rs.length)) B H2 (wipe σ vs) s (.ref D :: (rv ++ tv)) (.own (.lst acc) :: (rs ++ ts)), fun H2 q => ⟨els.length - (i + 1), by omega, rfl, hlt, q⟩, fun x H2 y => ?_⟩
    intro s0 H0 C cl fp
    refine step i el s acc he hI s0 H0 C cl fp _ B (wipe σ vs) (.ref D :: (rv ++ tv)) H2 x _ low'.up (g2 x H2 y) fun s3 σ3 H3 q3 h3 z3 => ?_
    have low2 : Low (fun k => m k ∨ (ts.length ≤ k ∧ k < ts.length + rs.length)) (.own (.lst acc) :: (rs ++ ts)).length := low'.up
    have wo : ∀ i, i ∉ vs → (wipe σ vs)[i]? = σ3[i]? := fun i hi => (z3.1 i hi).symm
    have wb : wipe σ3 vs = wipe σ vs := List.ext_getElem? fun i => by
      rw [wipe_get]
      by_cases hi : i ∈ vs
      · rw [if_pos hi]
        by_cases l : i < σ3.length
        · rw [List.getElem?_eq_getElem l, wipe_get, if_pos hi, List.getElem?_eq_getElem (show i < σ.length by rw [← wl, ← z3.2]; exact l)]
          rfl
        · rw [List.getElem?_eq_none (Nat.le_of_not_lt l), List.getElem?_eq_none (by rw [← z3.2]; exact Nat.le_of_not_lt l)]
          rfl
      · rw [if_neg hi]
        exact z3.1 i hi
    have nos : ∀ s5 : List Slot, ∀ j, j ∈ vs → (wipeS vs s5)[j]? = some .no ∨ (wipeS vs s5)[j]? = none := fun s5 j hj => by
      rw [wipeS_get, if_pos hj]
      cases s5[j]? with
      | none => exact .inr rfl
      | some _ => exact .inl rfl
    refine ⟨wb, fun s0 H0 C cl fp => ?_⟩
    refine q3 s0 H0 C cl fp _ B σ3 _ H3 _ low2 h3 fun s4 t H4 ⟨q4, q5⟩ h4 => ?_
    cases t with
    | false =>
      refine iteF ⟨_, acc, q5 rfl, nos s4, ?_⟩
      exact h4.other (by rw [z3.2]) wo
    | true =>
      refine iteT fun s0 H0 C cl fp => ?_
      refine q4 rfl s0 H0 C cl fp _ B σ3 _ H4 _ low2 h4 fun s5 r y5 H5 ⟨d, er, ll, q6⟩ h5 => ?_
      subst er
      obtain ⟨fp5, h5⟩ := h5
      obtain ⟨avs, e1, e2, h6⟩ := h5.snoc low'
      refine ⟨avs, e1, Nat.lt_trans (by omega : avs.length < 1000000) (by decide), _, _, q6, nos s5, ?_⟩
      exact h6.other (by rw [z3.2]) wo
  · have e : i = els.length := by omega
    subst e
    refine .inl ⟨stop _ (Nat.le_refl _), ?_⟩
    have h2 : Held X.K m B H' (wipe σ vs) (s.map (killT ts.length)) (.ref D :: (rv ++ tv)) (.own (.lst acc) :: (rs ++ ts)) := h'.less (fun k q l => by
      rcases q with q | q
      · exact q
      · omega) (hm.app (.own (.lst acc) :: rs)) fun s hs => by
        rcases List.mem_cons.mp hs with rfl | hs
        · exact fun _ _ z => nomatch z
        · exact vk s hs
    have h3 := Held.under h2 rl hm
    refine k _ _ _ H' (fin s acc hI) ?_
    obtain ⟨fp, f⟩ := h3
    refine ⟨fp, f.base, by rw [← wl]; exact f.slen, f.tlen, f.mle, fun j s' e => ?_, f.tmp, f.disj, f.nod, f.out, f.dom⟩
    by_cases hj : j ∈ vs
    · rw [List.getElem?_map] at e
      rcases hno j hj with z | z
      · rw [z] at e
        have e2 : Slot.no = s' := Option.some.inj e
        subst e2
        trivial
      · rw [z] at e
        cases e
    · have z := f.var j s' e
      rw [we j hj] at z
      exact z
theorem ev_lc {elt iter : Expr} {ifs : List Expr} {scope : Scope} (own : List (Str × Nat)) (hc : X.calm = true) (hN : X.N.Nodup) (ok : BlkOk X.N X.env.scope scope own)
    (h : IV X tg iter ss ts fun s1 rs els => ∃ I : Nat → List Slot → List D → Prop, I 0 (wipeS (own.map (·.2)) s1) [] ∧
      (∀ i el s acc, els[i]? = some el → I i s acc → LcTurn X elt tg ifs scope (own.map (·.2)) el s (rs ++ ts) acc (I (i + 1))) ∧ ∀ s acc, I els.length s acc → Φ (s.map (killT ts.length)) (.own (.lst acc)))
    (hs : ∀ x, foldedSetIterable iter X.env x = pure x := by intro _; rfl) : EV X (.ListComp elt [⟨tg, iter, ifs, 0⟩] scope pos) ss ts Φ := fun m B σ tv H Q hm hh k => by
  refine toE (pe_lc hc hN pi_w ok (fun s H C cl fp => ⟨fun pins s' σ H v u Q I r h => (h s _ C cl fp).run pins s' u I r⟩) (fun s H C cl fp => ⟨fun pins s' σ H Q I h => ?_⟩) (fun s H C cl fp => ⟨fun pins s' σ H Q I h => (h s _ C cl fp).run pins s' I⟩) hs) (lc_all h hm hh k)
  exact pts_w.run pins s' σ H Q I (h s _ C cl fp)
theorem s1_setLc {i : Nat} {y : Str} {py : Pos} {elt iter : Expr} {ifs : List Expr} {scope : Scope} {spos : Pos} (own : List (Str × Nat)) (hc : X.calm = true) (hN : X.N.Nodup) (hy : X.N[i]? = some y) (hyl : X.env.scope.names.lookup y = some .local)
    (hsw : swapsWith (.ListComp elt [⟨tg, iter, ifs, 0⟩] scope pos) (some (.Name y py)) spos.line X.env = pure true) (ok : BlkOk X.N X.env.scope scope own) (hfx : i ∉ fx) (hil : (ss[i]?).isSome = true)
    (h : IV X tg iter ss ts fun s1 rs els => ∃ I : Nat → List Slot → List D → Prop, I 0 (wipeS (own.map (·.2)) s1) [] ∧
      (∀ i el s acc, els[i]? = some el → I i s acc → LcTurn X elt tg ifs scope (own.map (·.2)) el s (rs ++ ts) acc (I (i + 1))) ∧
      ∀ s acc, I els.length s acc → s.length = ss.length ∧ noView (.v i) ts = true ∧ E.nx (((s.map (killT ts.length)).map (kill (.v i))).set i (.own (.lst acc))))
    (hs : ∀ x, foldedSetIterable iter X.env x = pure x := by intro _; rfl) : S1 X fx (.Assign [.Name y py] (.ListComp elt [⟨tg, iter, ifs, 0⟩] scope pos) spos) ss ts E := fun B σ tv H D hh k => by
  refine toS (ps_setLc (wi := wI X tg iter) (g := fun v σ H Q => ∀ s0 H0 C cl fp, wG (X.blk s0 H0 scope (compEnvC scope cl C X.env) fp) tg v σ H Q) (tt := fun σ H Q => ∀ s0 H0 C cl fp, wTs (X.blk s0 H0 scope (compEnvC scope cl C X.env) fp) ifs σ H Q)
    (te := fun σ H Q => ∀ s0 H0 C cl fp, wE (X.blk s0 H0 scope (compEnvC scope cl C X.env) fp) elt σ H Q) hc hN hy hyl hsw pi_w ok (fun s H C cl fp => ⟨fun pins s' σ H v u Q I r h => (h s _ C cl fp).run pins s' u I r⟩) (fun s H C cl fp => ⟨fun pins s' σ H Q I h => ?_⟩) (fun s H C cl fp => ⟨fun pins s' σ H Q I h => (h s _ C cl fp).run pins s' I⟩) hs) ?_
  · exact pts_w.run pins s' σ H Q I (h s _ C cl fp)
  · refine lc_all (Φ := fun s r => s.length = ss.length ∧ noView (.v i) ts = true ∧ (∃ acc, r = .own (.lst acc)) ∧ E.nx ((s.map (kill (.v i))).set i r)) (h := ?_) Low.self hh fun s r v H' ⟨l, n1, ⟨acc, e⟩, q⟩ h' => ?_
    · intro m B σ tv H R hm hh kk
      refine h m B σ tv H R hm hh fun s1 rs rv els J H' ⟨I, i0, st, fi⟩ => kk s1 rs rv els J H' ⟨I, i0, st, fun s acc q => ?_⟩
      obtain ⟨l, n, q⟩ := fi s acc q
      exact ⟨by simpa using l, n, ⟨acc, rfl⟩, q⟩
    · subst e
      refine k.nx _ _ H' q (h'.assign Low.self (by rw [l]; exact isSome_lt hil) n1 (fun _ z => nomatch z)) fun j hj => ?_
      exact List.getElem?_set_ne (fun z => by subst z; exact hfx hj)
def isAll : List Slot → List D → Prop
  | [], [] => True
  | r :: rs, d :: ds => r.is d ∧ isAll rs ds
  | _, _ => False
theorem isAll.len : ∀ {rs : List Slot} {ds : List D}, isAll rs ds → rs.length = ds.length
  | [], [], _ => rfl
  | _ :: _, _ :: _, h => by rw [List.length_cons, List.length_cons, isAll.len h.2]
  | [], _ :: _, h => h.elim
  | _ :: _, [], h => h.elim
theorem isAll.app : ∀ {rs rs' : List Slot} {ds ds' : List D}, isAll rs ds → isAll rs' ds' → isAll (rs ++ rs') (ds ++ ds')
  | [], _, [], _, _, k => k
  | _ :: _, _, _ :: _, _, h, k => ⟨h.1, isAll.app h.2 k⟩
  | [], _, _ :: _, _, h, _ => h.elim
  | _ :: _, _, [], _, h, _ => h.elim
theorem isAll.rev : ∀ {rs : List Slot} {ds : List D}, isAll rs ds → isAll rs.reverse ds.reverse
  | [], [], _ => trivial
  | r :: rs, d :: ds, h => by
    rw [List.reverse_cons, List.reverse_cons]
    exact (isAll.rev h.2).app ⟨h.1, trivial⟩
  | [], _ :: _, h => h.elim
  | _ :: _, [], h => h.elim
section
variable {K : PySem.W.Frag} {m : Nat → Prop} {B H : Hp} {σ : List (Option V)} {tv vs : List V} {rs : List Slot} {ds : List D}
theorem Held.reps : ∀ {rs : List Slot} {vs : List V} {ds : List D}, vs.length = rs.length → Held K m B H σ ss (vs ++ tv) (rs ++ ts) → isAll rs ds → Low m ts.length → RepRs K H ds vs
  | [], [], [], _, _, _, _ => by unfold RepRs; rfl
  | r :: rs, v :: vs, d :: ds, e, h, q, hm => by
    unfold RepRs
    exact ⟨v, vs, rfl, Held.top h q.1, Held.reps (rs := rs) (vs := vs) (ds := ds) (by simpa using e) (Held.pop h (hm.app _)) q.2 hm⟩
  | [], _ :: _, _, e, _, _, _ => nomatch e
  | _ :: _, [], _, e, _, _, _ => nomatch e
  | _ :: _, _ :: _, [], _, _, q, _ => q.elim
  | [], [], _ :: _, _, _, q, _ => q.elim
theorem RepRs.rev {ds : List D} {vs : List V} (h : RepRs K H ds vs) : RepRs K H ds.reverse vs.reverse := by
  induction ds generalizing vs with
  | nil => unfold RepRs at h; subst h; unfold RepRs; rfl
  | cons d ds ih =>
    unfold RepRs at h
    obtain ⟨w, ws, rfl, h1, h2⟩ := h
    rw [List.reverse_cons, List.reverse_cons]
    exact (ih h2).append (by unfold RepRs; exact ⟨w, [], rfl, h1, by unfold RepRs; rfl⟩)
theorem Held.argsOf (h : Held K m B H σ ss (vs.reverse ++ tv) (rs.reverse ++ ts)) (l : vs.length = rs.length) (q : isAll rs ds) (hm : Low m ts.length) : RepRs K H ds vs := by
  have z := Held.reps (by simpa using l) h q.rev hm
  have z2 := RepRs.rev z
  rw [List.reverse_reverse, List.reverse_reverse] at z2
  exact z2
theorem Held.popA (h : Held K m B H σ ss (vs.reverse ++ tv) (rs.reverse ++ ts)) (l : vs.length = rs.length) (hm : Low m ts.length) : Held K m B H σ ss tv ts := Held.popN (by simpa using l) h hm
end
def New (K : PySem.W.Frag) (H H' : Hp) (v : V) (d : D) : Prop := Ex H H' ∧ ∃ F, RepO K H' d v F ∧ F.Nodup ∧ ∀ a ∈ F, H a = none
theorem Held.new {K : PySem.W.Frag} {m : Nat → Prop} {B H H' : Hp} {σ : List (Option V)} {tv : List V} {v : V} {d : D} (h : Held K m B H σ ss tv ts) (n : New K H H' v d) : Held K m B H' σ ss (v :: tv) (.own d :: ts) := by
  obtain ⟨ex, F, r, nd, nw⟩ := n
  exact h.fresh ex r nd nw
theorem spP_use {K : PySem.W.Frag} {F : List D → (D → Prop) → Prop} {ds : List D} {vs : List V} {H : Hp} {Q : VK} {Ex' : XK} (r : RepRs K H ds vs) {k : D → Prop} (hF : F ds k) (q : ∀ d v H', k d → New K H H' v d → Q v H') : spP K F vs H Q Ex' := by
  refine ⟨H, ds.map Slot.par, held_par r, ds, k, rfl, hF, fun d hk v H' ⟨fp, h⟩ => ?_⟩
  obtain ⟨w, e1, e2⟩ := h.top
  cases e1
  exact q d v H' hk ⟨h.base, _, e2, h.nod _, fun a ha => h.out _ a ha⟩
section
variable {CX : CXT} {k : Nat} {f : Addr} {fd : FuncData} {ps : List Str} {x : Str} {p : Pos} {EX : XK} {F : List D → (D → Prop) → Prop}
theorem ev_call {dvs : List V} {dfl : List Value} {dds : List D} (G : FnOk X.prog X.w X.K X.mg X.base CX k f fd ps (spP X.K F)) (hr : Room k X.A) (hg : Gl X x) (hm : X.mg x = some (.ref f)) (hk : PySem.W.keepIn X.K (.ref f) = true) (hb : Binds X.K fd ps dfl) (hd : Vals dvs dfl) (hdd : ∀ H, RepRs X.K H dds dvs) (hx : Passes CX X EX)
    (h : AV X (e :: es) ss ts fun s rs => ∃ ds, isAll rs ds ∧ F (ds ++ dds) fun d => Φ s (.own d))
    (hdb : (x == ("__debug__" : Str)) = false := by decide) (he : starEach (e :: es) X.env = (false, eval e X.env) :: starEach es X.env := by rfl) (hpl : (backTo pos (starEach es X.env)).any (·.1) = false := by rfl) : EV X (.Call (.Name x p) (e :: es) [] pos) ss ts Φ := fun m B σ tv H Q hm' hh kk => by
  refine toE (pe_call G hr hg hm hk hb hd hx pa_w hdb he hpl) ?_
  refine h m B σ tv H _ hm' hh fun s rs vs H1 ⟨ds, ia, hF⟩ l1 l2 hh1 => ?_
  have hpop := hh1.popA l1 hm'
  refine spP_use ((hh1.argsOf l1 ia hm').append (hdd H1)) hF fun d v H2 q n => ?_
  exact kk s _ v H2 q (hpop.new n)
end
end
end DL
namespace DL
open PySem PySem.Spec PyProof.Rows L2
section
variable {X : Cx} {fx : List Nat} {ss ts : List Slot} {Φ : List Slot → Slot → Prop} {e a b c tg it o : Expr} {es : List Expr} {pos p2 apos : Pos} {E : DE} {Θ : List Slot → Bool → Prop}
theorem ev_ii {op : Operator} {C : Int → Int → Prop} {g : Int → Int → Int} (ho : OpR X (binaryOp op) (rI C fun i j => .int (g i j))) (h : EV X a ss ts fun s1 r1 => EV X b s1 (r1 :: ts) fun s2 r2 => ∃ i j, r1.is (.int i) ∧ r2.is (.int j) ∧ C i j ∧ Φ s2 (.own (.int (g i j)))) : EV X (.BinOp a op b pos) ss ts Φ :=
  ev_op2 ho (h.imp fun s1 r1 h1 => h1.imp fun s2 r2 ⟨i, j, e1, e2, hc, q⟩ => ⟨_, _, _, e1, e2, fun H x y rx ry => ⟨.int (g i j), fun H => o_int, fun Q q => by
    rw [rep_int] at rx ry
    exact ⟨i, j, rx, ry, hc, q⟩⟩, q⟩)
theorem ev_ii0 {op : Operator} {g : Int → Int → Int} (ho : OpR X (binaryOp op) (rI0 fun i j => .int (g i j))) (h : EV X a ss ts fun s1 r1 => EV X b s1 (r1 :: ts) fun s2 r2 => ∃ i j, r1.is (.int i) ∧ r2.is (.int j) ∧ Φ s2 (.own (.int (g i j)))) : EV X (.BinOp a op b pos) ss ts Φ :=
  ev_op2 ho (h.imp fun s1 r1 h1 => h1.imp fun s2 r2 ⟨i, j, e1, e2, q⟩ => ⟨_, _, _, e1, e2, fun H x y rx ry => ⟨.int (g i j), fun H => o_int, fun Q q => by
    rw [rep_int] at rx ry
    exact ⟨i, j, rx, ry, q⟩⟩, q⟩)
theorem ev_sub (h : EV X a ss ts fun s1 r1 => EV X b s1 (r1 :: ts) fun s2 r2 => ∃ i j, r1.is (.int i) ∧ r2.is (.int j) ∧ Φ s2 (.own (.int (i - j)))) : EV X (.BinOp a .Sub b pos) ss ts Φ := ev_ii0 op_sub h
theorem ev_mul (h : EV X a ss ts fun s1 r1 => EV X b s1 (r1 :: ts) fun s2 r2 => ∃ i j, r1.is (.int i) ∧ r2.is (.int j) ∧ CMulW i j ∧ Φ s2 (.own (.int (i * j)))) : EV X (.BinOp a .Mult b pos) ss ts Φ := ev_ii op_mulW h
theorem ev_mod (h : EV X a ss ts fun s1 r1 => EV X b s1 (r1 :: ts) fun s2 r2 => ∃ i j, r1.is (.int i) ∧ r2.is (.int j) ∧ 0 < j ∧ Φ s2 (.own (.int (i % j)))) : EV X (.BinOp a .Mod b pos) ss ts Φ := ev_ii op_mod h
theorem ev_fdiv (h : EV X a ss ts fun s1 r1 => EV X b s1 (r1 :: ts) fun s2 r2 => ∃ i j, r1.is (.int i) ∧ r2.is (.int j) ∧ CDivW i j ∧ Φ s2 (.own (.int (i / j)))) : EV X (.BinOp a .FloorDiv b pos) ss ts Φ := ev_ii op_fdivW h
theorem ev_modN (h : EV X a ss ts fun s1 r1 => EV X b s1 (r1 :: ts) fun s2 r2 => ∃ i j, r1.is (.int i) ∧ r2.is (.int j) ∧ j ≠ 0 ∧ Φ s2 (.own (.int (i.fmod j)))) : EV X (.BinOp a .Mod b pos) ss ts Φ := ev_ii op_modN h
theorem op_fdivWN : OpR X (binaryOp .FloorDiv) (rI (fun _ j => j ≠ 0 ∧ j.natAbs.log2 < 9000) fun i j => .int (i.fdiv j)) := opI fun _ _ _ _ _ _ _ hc q => floordiv_int hc.1 q (.inl (PyProof.noPylong_of_log2 hc.2))
theorem ev_fdivN (h : EV X a ss ts fun s1 r1 => EV X b s1 (r1 :: ts) fun s2 r2 => ∃ i j, r1.is (.int i) ∧ r2.is (.int j) ∧ (j ≠ 0 ∧ j.natAbs.log2 < 9000) ∧ Φ s2 (.own (.int (i.fdiv j)))) : EV X (.BinOp a .FloorDiv b pos) ss ts Φ := ev_ii op_fdivWN h
theorem ev_neg (h : EV X a ss ts fun s1 r1 => ∃ i, r1.is (.int i) ∧ Φ s1 (.own (.int (-i)))) : EV X (.UnaryOp .USub a pos) ss ts Φ :=
  ev_un un_neg (h.imp fun s r ⟨i, e, q⟩ => ⟨_, _, e, fun H x rx => ⟨.int (-i), fun H => o_int, fun Q q => by
    rw [rep_int] at rx
    exact ⟨i, rx, q⟩⟩, q⟩)
theorem tv_i {op : CmpOp} {g : Int → Int → Bool} (ho : OpR X (compareOp op) (rI0 fun i j => .bl (g i j))) (h1 : behindInMarks op b = false) (h : EV X a ss ts fun s1 r1 => EV X b s1 (r1 :: ts) fun s2 r2 => ∃ i j, r1.is (.int i) ∧ r2.is (.int j) ∧ Θ s2 (g i j)) : TV X (.Compare a [op] [b] pos) ss ts Θ :=
  tv_cmp2 ho h1 (h.imp fun s1 r1 h1 => h1.imp fun s2 r2 ⟨i, j, e1, e2, q⟩ => ⟨_, _, _, e1, e2, fun H x y rx ry Q q => by
    rw [rep_int] at rx ry
    exact ⟨i, j, rx, ry, q⟩, q⟩)
theorem tv_lt (h : EV X a ss ts fun s1 r1 => EV X b s1 (r1 :: ts) fun s2 r2 => ∃ i j, r1.is (.int i) ∧ r2.is (.int j) ∧ Θ s2 (decide (i < j))) : TV X (.Compare a [.Lt] [b] pos) ss ts Θ := tv_i op_lt (nobehind _ (by decide) (by decide)) h
theorem tv_gt (h : EV X a ss ts fun s1 r1 => EV X b s1 (r1 :: ts) fun s2 r2 => ∃ i j, r1.is (.int i) ∧ r2.is (.int j) ∧ Θ s2 (decide (j < i))) : TV X (.Compare a [.Gt] [b] pos) ss ts Θ := tv_i op_gt (nobehind _ (by decide) (by decide)) h
def D.sc : D → Option V
  | .int i => some (.int i)
  | .str x => some (.str x)
  | .bl b => some (.bl b)
  | .non => some .non
  | _ => none
theorem D.sc_rep {K : PySem.W.Frag} {H : Hp} {d : D} {v x : V} (h : RepR K H d v) (e : d.sc = some x) : v = x := by
  cases d with
  | int i => unfold RepR at h; cases e; exact h
  | str i => unfold RepR at h; cases e; exact h
  | bl i => unfold RepR at h; cases e; exact h
  | non => unfold RepR at h; cases e; exact h
  | _ => cases e
theorem tv_eq (h : EV X a ss ts fun s1 r1 => EV X b s1 (r1 :: ts) fun s2 r2 => ∃ d1 d2 x y, r1.is d1 ∧ r2.is d2 ∧ d1.sc = some x ∧ d2.sc = some y ∧ scal x y = true ∧ Θ s2 (decide (x = y))) : TV X (.Compare a [.Eq] [b] pos) ss ts Θ :=
  tv_cmp2 op_eq (nobehind _ (by decide) (by decide)) (h.imp fun s1 r1 h1 => h1.imp fun s2 r2 ⟨d1, d2, x, y, e1, e2, c1, c2, c3, q⟩ => ⟨_, _, _, e1, e2, fun H u w rx ry Q q => by
    rw [D.sc_rep rx c1, D.sc_rep ry c2]
    exact ⟨c3, q⟩, q⟩)
theorem tv_ne (h : EV X a ss ts fun s1 r1 => EV X b s1 (r1 :: ts) fun s2 r2 => ∃ d1 d2 x y, r1.is d1 ∧ r2.is d2 ∧ d1.sc = some x ∧ d2.sc = some y ∧ scal x y = true ∧ Θ s2 (!decide (x = y))) : TV X (.Compare a [.NotEq] [b] pos) ss ts Θ :=
  tv_cmp2 op_ne (nobehind _ (by decide) (by decide)) (h.imp fun s1 r1 h1 => h1.imp fun s2 r2 ⟨d1, d2, x, y, e1, e2, c1, c2, c3, q⟩ => ⟨_, _, _, e1, e2, fun H u w rx ry Q q => by
    rw [D.sc_rep rx c1, D.sc_rep ry c2]
    exact ⟨c3, q⟩, q⟩)
mutual
def D.py : D → Option PyData
  | .non => some .none
  | .bl b => some (.bool b)
  | .int i => some (.int i)
  | .str x => some (.str x)
  | .tup l => (D.pys l).map .tuple
  | .lst l => (D.pys l).map .list
  | .fz l => (D.pys l).map .list
  | _ => none
def D.pys : List D → Option (List PyData)
  | [] => some []
  | d :: ds => match d.py, D.pys ds with
    | some p, some ps => some (p :: ps)
    | _, _ => none
end
mutual
theorem D.dp {K : PySem.W.Frag} {H : Hp} : ∀ {d : D} {p : PyData} {v : V}, RepR K H d v → d.py = some p → Dp K H v p
  | .non, _, _, h, e => by unfold RepR at h; unfold D.py at e; cases e; subst h; exact Dp.non
  | .bl _, _, _, h, e => by unfold RepR at h; unfold D.py at e; cases e; subst h; exact Dp.bl _
  | .int _, _, _, h, e => by unfold RepR at h; unfold D.py at e; cases e; subst h; exact Dp.int _
  | .str _, _, _, h, e => by unfold RepR at h; unfold D.py at e; cases e; subst h; exact Dp.str _
  | .raw _, _, _, h, e => by unfold D.py at e; cases e
  | .fz l, _, _, h, e => by
    unfold RepR at h
    unfold D.py at e
    obtain ⟨a, vs, rfl, h1, h2⟩ := h
    obtain ⟨ps, e1, rfl⟩ := Option.map_eq_some_iff.mp e
    exact Dp.lst h1.sql (D.dps h2 e1)
  | .ins _ _ _, _, _, h, e => by unfold D.py at e; cases e
  | .dct _ _, _, _, h, e => by unfold D.py at e; cases e
  | .nam _ _, _, _, h, e => by unfold D.py at e; cases e
  | .ar _ _ _, _, _, h, e => by unfold D.py at e; cases e
  | .tup l, _, _, h, e => by
    unfold RepR at h
    unfold D.py at e
    obtain ⟨a, vs, rfl, h1, h2⟩ := h
    obtain ⟨ps, e1, rfl⟩ := Option.map_eq_some_iff.mp e
    exact Dp.tup h1 (D.dps h2 e1)
  | .lst l, _, _, h, e => by
    unfold RepR at h
    unfold D.py at e
    obtain ⟨a, vs, rfl, h1, h2⟩ := h
    obtain ⟨ps, e1, rfl⟩ := Option.map_eq_some_iff.mp e
    exact Dp.lst (SqL.of h1) (D.dps h2 e1)
theorem D.dps {K : PySem.W.Frag} {H : Hp} : ∀ {ds : List D} {ps : List PyData} {vs : List V}, RepRs K H ds vs → D.pys ds = some ps → DpAll K H vs ps
  | [], _, _, h, e => by unfold RepRs at h; unfold D.pys at e; cases e; subst h; exact DpAll.nil
  | d :: ds, _, _, h, e => by
    unfold RepRs at h
    unfold D.pys at e
    obtain ⟨w, ws, rfl, h1, h2⟩ := h
    split at e
    · rename_i p ps e1 e2
      cases e
      exact DpAll.cons (D.dp h1 e1) (D.dps h2 e2)
    · cases e
end
theorem tv_neD (hu : X.A.units + 64 < cLine) (h : EV X a ss ts fun s1 r1 => EV X b s1 (r1 :: ts) fun s2 r2 => ∃ d1 d2 x y, r1.is d1 ∧ r2.is d2 ∧ d1.py = some x ∧ d2.py = some y ∧ SeqAt.shaped x = true ∧ SeqAt.shaped y = true ∧ Θ s2 (!PyData.eqv x y)) : TV X (.Compare a [.NotEq] [b] pos) ss ts Θ :=
  tv_cmp2 (op_neD hu) (nobehind _ (by decide) (by decide)) (h.imp fun s1 r1 h1 => h1.imp fun s2 r2 ⟨d1, d2, x, y, e1, e2, c1, c2, c3, c4, q⟩ => ⟨_, _, _, e1, e2, fun H u w rx ry Q q => ⟨x, y, D.dp rx c1, D.dp ry c2, c3, c4, q⟩, q⟩)
theorem ev_eqD (hu : X.A.units + 64 < cLine) (h : EV X a ss ts fun s1 r1 => EV X b s1 (r1 :: ts) fun s2 r2 => ∃ d1 d2 x y, r1.is d1 ∧ r2.is d2 ∧ d1.py = some x ∧ d2.py = some y ∧ SeqAt.shaped x = true ∧ SeqAt.shaped y = true ∧ Φ s2 (.own (.bl (PyData.eqv x y)))) : EV X (.Compare a [.Eq] [b] pos) ss ts Φ :=
  ev_cmp2 (op_eqD hu) (nobehind _ (by decide) (by decide)) (h.imp fun s1 r1 h1 => h1.imp fun s2 r2 ⟨d1, d2, x, y, e1, e2, c1, c2, c3, c4, q⟩ => ⟨_, _, _, e1, e2, fun H u w rx ry => ⟨_, fun H => o_bl, fun Q q => ⟨x, y, D.dp rx c1, D.dp ry c2, c3, c4, q⟩⟩, q⟩)
theorem ev_eq (h : EV X a ss ts fun s1 r1 => EV X b s1 (r1 :: ts) fun s2 r2 => ∃ d1 d2 x y, r1.is d1 ∧ r2.is d2 ∧ d1.sc = some x ∧ d2.sc = some y ∧ scal x y = true ∧ Φ s2 (.own (.bl (decide (x = y))))) : EV X (.Compare a [.Eq] [b] pos) ss ts Φ :=
  ev_cmp2 op_eq (nobehind _ (by decide) (by decide)) (h.imp fun s1 r1 h1 => h1.imp fun s2 r2 ⟨d1, d2, x, y, e1, e2, c1, c2, c3, q⟩ => ⟨_, _, _, e1, e2, fun H u w rx ry => ⟨_, fun H => o_bl, fun Q q => by
    rw [D.sc_rep rx c1, D.sc_rep ry c2]
    exact ⟨c3, q⟩⟩, q⟩)
theorem ev_ci {op : CmpOp} {g : Int → Int → Bool} (ho : OpR X (compareOp op) (rI0 fun i j => .bl (g i j))) (h1 : behindInMarks op b = false) (h : EV X a ss ts fun s1 r1 => EV X b s1 (r1 :: ts) fun s2 r2 => ∃ i j, r1.is (.int i) ∧ r2.is (.int j) ∧ Φ s2 (.own (.bl (g i j)))) : EV X (.Compare a [op] [b] pos) ss ts Φ :=
  ev_cmp2 ho h1 (h.imp fun s1 r1 h1 => h1.imp fun s2 r2 ⟨i, j, e1, e2, q⟩ => ⟨_, _, _, e1, e2, fun H x y rx ry => ⟨_, fun H => o_bl, fun Q q => by
    rw [rep_int] at rx ry
    exact ⟨i, j, rx, ry, q⟩⟩, q⟩)
theorem ev_ge (h : EV X a ss ts fun s1 r1 => EV X b s1 (r1 :: ts) fun s2 r2 => ∃ i j, r1.is (.int i) ∧ r2.is (.int j) ∧ Φ s2 (.own (.bl (decide (j ≤ i))))) : EV X (.Compare a [.GtE] [b] pos) ss ts Φ := ev_ci op_ge (nobehind _ (by decide) (by decide)) h
def CallD (K : PySem.W.Frag) (r : List V → Hp → VK → Prop) (ds : List D) (P : D → Prop) : Prop := ∀ H vs Q, RepRs K H ds vs → (∀ d v H', P d → New K H H' v d → Q v H') → r vs H Q
theorem New.flat {K : PySem.W.Frag} {H : Hp} {v : V} {d : D} (r : RepO K H d v []) : New K H H v d := ⟨Ex.refl H, [], r, List.nodup_nil, fun _ z => nomatch z⟩
theorem reps1 {K : PySem.W.Frag} {H : Hp} {d : D} {vs : List V} (h : RepRs K H [d] vs) : ∃ v, vs = [v] ∧ RepR K H d v := by
  unfold RepRs at h
  obtain ⟨w, ws, rfl, h1, h2⟩ := h
  unfold RepRs at h2
  subst h2
  exact ⟨w, rfl, h1⟩
theorem reps2 {K : PySem.W.Frag} {H : Hp} {d e : D} {vs : List V} (h : RepRs K H [d, e] vs) : ∃ v w, vs = [v, w] ∧ RepR K H d v ∧ RepR K H e w := by
  unfold RepRs at h
  obtain ⟨w, ws, rfl, h1, h2⟩ := h
  obtain ⟨v, rfl, h3⟩ := reps1 h2
  exact ⟨w, v, rfl, h1, h3⟩
section
variable {id T : String} {r : List V → Hp → VK → Prop} {x : Str} {p : Pos}
theorem ev_callB (hc : CallR X (.builtin id) r) (hg : Gl X x) (hm : X.mg x = none) (hv : bootBuiltins x = some (.builtin id)) (h : AV X (e :: es) ss ts fun s rs => ∃ ds P, isAll rs ds ∧ CallD X.K r ds P ∧ ∀ d, P d → Φ s (.own d))
    (hn : x ≠ "__name__" := by decide) (hdb : (x == ("__debug__" : Str)) = false := by decide)
    (he : starEach (e :: es) X.env = (false, eval e X.env) :: starEach es X.env := by rfl) (hpl : (backTo pos (starEach es X.env)).any (·.1) = false := by rfl) : EV X (.Call (.Name x p) (e :: es) [] pos) ss ts Φ := fun m B σ tv H Q hm' hh kk => by
  refine toE (pe_callB hc hg hm hv pa_w hn hdb he hpl) ?_
  refine h m B σ tv H _ hm' hh fun s rs vs H1 ⟨ds, P, ia, cd, q⟩ l1 l2 hh1 => ?_
  refine cd H1 vs Q (hh1.argsOf l1 ia hm') fun d v H2 hP n => ?_
  exact kk s _ v H2 (q d hP) ((hh1.popA l1 hm').new n)
theorem ev_callTy (hc : CallR X (.type T) r) (hg : Gl X x) (hm : X.mg x = none) (hv : bootBuiltins x = some (.type T)) (h : AV X (e :: es) ss ts fun s rs => ∃ ds P, isAll rs ds ∧ CallD X.K r ds P ∧ ∀ d, P d → Φ s (.own d))
    (hn : x ≠ "__name__" := by decide) (hdb : (x == ("__debug__" : Str)) = false := by decide)
    (he : starEach (e :: es) X.env = (false, eval e X.env) :: starEach es X.env := by rfl) (hpl : (backTo pos (starEach es X.env)).any (·.1) = false := by rfl) : EV X (.Call (.Name x p) (e :: es) [] pos) ss ts Φ := fun m B σ tv H Q hm' hh kk => by
  refine toE (pe_callTy hc hg hm hv pa_w hn hdb he hpl) ?_
  refine h m B σ tv H _ hm' hh fun s rs vs H1 ⟨ds, P, ia, cd, q⟩ l1 l2 hh1 => ?_
  refine cd H1 vs Q (hh1.argsOf l1 ia hm') fun d v H2 hP n => ?_
  exact kk s _ v H2 (q d hP) ((hh1.popA l1 hm').new n)
end
def D.seqL : D → Option (List D)
  | .lst l => some l
  | .tup l => some l
  | .fz l => some l
  | _ => none
theorem D.seq_rep {K : PySem.W.Frag} {H : Hp} {d : D} {l : List D} {v : V} (h : RepR K H d v) (e : d.seqL = some l) : ∃ a vs, v = .ref a ∧ (SqL K H a vs ∨ SqT K H a vs) ∧ RepRs K H l vs := by
  cases d with
  | lst l => unfold RepR at h; cases e; obtain ⟨a, vs, h1, h2, h3⟩ := h; exact ⟨a, vs, h1, .inl (SqL.of h2), h3⟩
  | tup l => unfold RepR at h; cases e; obtain ⟨a, vs, h1, h2, h3⟩ := h; exact ⟨a, vs, h1, .inr h2, h3⟩
  | fz l => unfold RepR at h; cases e; obtain ⟨a, vs, h1, h2, h3⟩ := h; exact ⟨a, vs, h1, .inl h2.sql, h3⟩
  | _ => cases e
theorem ev_len {p : Pos} (hg : Gl X "len") (hm : X.mg "len" = none) (h : EV X e ss ts fun s r => ∃ d l, r.is d ∧ d.seqL = some l ∧ Φ s (.own (.int ((l.length : Nat) : Int))))
    (he : starEach [e] X.env = (false, eval e X.env) :: starEach [] X.env := by rfl) : EV X (.Call (.Name "len" p) [e] [] pos) ss ts Φ :=
  ev_callB call_len_seq hg hm PySem.boot_len (av_cons (h.imp fun s r ⟨d, l, e1, e2, q⟩ => av_nil ⟨[d], fun d => d = .int ((l.length : Nat) : Int), ⟨e1, trivial⟩, fun H vs Q rr k => by
    obtain ⟨v, rfl, hv⟩ := reps1 rr
    obtain ⟨a, ws, rfl, h1, h2⟩ := D.seq_rep hv e2
    refine ⟨a, ws, rfl, h1, ?_⟩
    rw [h2.length]
    exact k _ _ H rfl (.flat o_int), fun d hd => by rw [hd]; exact q⟩) he) (he := he)
theorem ev_lenS {p : Pos} (hg : Gl X "len") (hm : X.mg "len" = none) (h : EV X e ss ts fun s r => ∃ x, r.is (.str x) ∧ x.length ≤ 1000000 ∧ Φ s (.own (.int ((x.length : Nat) : Int))))
    (he : starEach [e] X.env = (false, eval e X.env) :: starEach [] X.env := by rfl) : EV X (.Call (.Name "len" p) [e] [] pos) ss ts Φ :=
  ev_callB call_len_str hg hm PySem.boot_len (av_cons (h.imp fun s r ⟨x, e1, e2, q⟩ => av_nil ⟨[.str x], fun d => d = .int ((x.length : Nat) : Int), ⟨e1, trivial⟩, fun H vs Q rr k => by
    obtain ⟨v, rfl, hv⟩ := reps1 rr
    rw [rep_str] at hv
    exact ⟨x, by rw [hv], Nat.le_trans e2 (by decide), k _ _ H rfl (.flat o_int)⟩, fun d hd => by rw [hd]; exact q⟩) he) (he := he)
theorem ev_strI {p : Pos} (hg : Gl X "str") (hm : X.mg "str" = none) (h : EV X e ss ts fun s r => ∃ i, r.is (.int i) ∧ i.natAbs.log2 < 1920 ∧ Φ s (.own (.str (toString i))))
    (he : starEach [e] X.env = (false, eval e X.env) :: starEach [] X.env := by rfl) : EV X (.Call (.Name "str" p) [e] [] pos) ss ts Φ :=
  ev_callTy call_str_int hg hm (by decide +kernel) (av_cons (h.imp fun s r ⟨i, e1, e2, q⟩ => av_nil ⟨[.int i], fun d => d = .str (toString i), ⟨e1, trivial⟩, fun H vs Q rr k => by
    obtain ⟨v, rfl, hv⟩ := reps1 rr
    rw [rep_int] at hv
    exact ⟨i, by rw [hv], e2, k _ _ H rfl (.flat o_str)⟩, fun d hd => by rw [hd]; exact q⟩) he) (he := he)
theorem reps_strs {K : PySem.W.Frag} {H : Hp} : ∀ {ns : List Str} {vs : List V}, RepRs K H (ns.map D.str) vs → vs = ns.map V.str
  | [], _, h => by rw [List.map_nil] at h; unfold RepRs at h; exact h
  | n :: ns, _, h => by
    rw [List.map_cons] at h
    unfold RepRs at h
    obtain ⟨w, ws, rfl, h1, h2⟩ := h
    rw [rep_str] at h1
    rw [h1, reps_strs h2]
    rfl
theorem reps_ofStrs {K : PySem.W.Frag} {H : Hp} : ∀ (ns : List Str), RepOs K H (ns.map D.str) (ns.map V.str) []
  | [] => by unfold RepOs; exact ⟨rfl, rfl⟩
  | n :: ns => by
    rw [List.map_cons, List.map_cons]
    unfold RepOs
    exact ⟨_, _, [], [], rfl, rfl, o_str, reps_ofStrs ns⟩
theorem reps_ofInts {K : PySem.W.Frag} {H : Hp} : ∀ (ns : List Int), RepOs K H (ns.map D.int) (ns.map V.int) []
  | [] => by unfold RepOs; exact ⟨rfl, rfl⟩
  | n :: ns => by
    rw [List.map_cons, List.map_cons]
    unfold RepOs
    exact ⟨_, _, [], [], rfl, rfl, o_int, reps_ofInts ns⟩
theorem New.lst {K : PySem.W.Frag} {H : Hp} {p : Addr} {vs : List V} {ds : List D} (hp : H p = none) (h : ∀ H, RepOs K H ds vs []) : New K H (upd H p (.lst vs)) (.ref p) (.lst ds) :=
  ⟨Ex.new hp, [p], by unfold RepO; exact ⟨p, vs, [], rfl, upd_same, rfl, h _⟩, by simp, fun a ha => by rw [List.mem_singleton.mp ha]; exact hp⟩
theorem New.lstF {K : PySem.W.Frag} {H : Hp} {p : Addr} {vs : List V} {ds : List D} (hp : H p = none) (h : RepOs K H ds vs []) : New K H (upd H p (.lst vs)) (.ref p) (.lst ds) :=
  ⟨Ex.new hp, [p], by unfold RepO; exact ⟨p, vs, [], rfl, upd_same, rfl, h.frame (Ex.new hp).tk fun _ z => nomatch z⟩, by simp, fun a ha => by rw [List.mem_singleton.mp ha]; exact hp⟩
def MtD (K : PySem.W.Frag) (T : String) (r : V → List V → Hp → VK → Prop) (d0 : D) (ds : List D) (P : D → Prop) : Prop := ∀ H v vs Q, RepR K H d0 v → RepRs K H ds vs → (∀ d w H', P d → New K H H' w d → Q w H') → r v vs H Q
theorem ev_bm {id T : String} {name : Str} {r : V → List V → Hp → VK → Prop} (pa : PlainAttrs T) (slot : PySem.Slot T name id) (hty : typeOf (.builtin id) = pure (.type "method_descriptor")) (hm : MtR X id r)
    (h : EV X o ss ts fun s0 r0 => ∃ d0, r0.is d0 ∧ (∀ H v, RepR X.K H d0 v → tyV X.K T v H) ∧ AV X (e :: es) s0 (r0 :: ts) fun s rs => ∃ ds P, isAll rs ds ∧ MtD X.K T r d0 ds P ∧ ∀ d, P d → Φ s (.own d))
    (hbase : attributeBase o name X.env (eval o X.env) = eval o X.env := by rfl)
    (hfew : ((backTo pos (starEach (e :: es) X.env)).all (fun x => !x.1) && (backToKw pos (keywordEach [] X.env)).all (fun x => x.1.isSome)
      && decide ((e :: es).length + ([] : List Keyword).length + (if ([] : List Keyword).isEmpty then 0 else 1) < 30)) = true := by rfl)
    (hline : (apos.endLine == pos.line) = true := by rfl) (hs : starEach (e :: es) X.env = (false, eval e X.env) :: starEach es X.env := by rfl) (hplain : (backTo pos (starEach es X.env)).any (·.1) = false := by rfl) :
    EV X (.Call (.Attribute o name apos) (e :: es) [] pos) ss ts Φ := fun m B σ tv H Q hm' hh kk => by
  refine toE (pe_bm pa slot hty hm pe_w pa_w hbase hfew hline hs hplain) ?_
  refine h m B σ tv H _ hm' hh fun s0 r0 v H1 ⟨d0, e0, ty, h2⟩ hh1 => ?_
  refine ⟨ty H1 v (hh1.top e0), ?_⟩
  refine h2 m B σ (v :: tv) H1 _ hm'.up hh1 fun s rs vs H2 ⟨ds, P, ia, md, q⟩ l1 l2 hh2 => ?_
  have hp := hh2.popA l1 hm'.up
  refine md H2 v vs Q (hp.top e0) (hh2.argsOf l1 ia hm'.up) fun d w H3 hP n => ?_
  exact kk s _ w H3 (q d hP) ((hp.pop hm').new n)
theorem ty_str {K : PySem.W.Frag} {x : Str} : ∀ H v, RepR K H (.str x) v → tyV K "str" v H := fun H v h => by
  rw [rep_str] at h
  subst h
  exact rfl
section
variable {K : PySem.W.Frag} {m : Nat → Prop} {B H : Hp} {σ : List (Option V)} {tv : List V} {v : V} {fp : Own → List Addr} {d : D} {l : List D} {i : Nat}
theorem HeldF.lst (h : HeldF K m B H fp σ ss tv ts) (hs : ss[i]? = some (.own (.lst l))) : ∃ a vs G, σ[i]? = some (some (.ref a)) ∧ H a = some (.lst vs) ∧ fp (.v i) = a :: G ∧ RepOs K H l vs G := by
  obtain ⟨v, e1, e2⟩ := h.var i _ hs
  unfold RepO at e2
  obtain ⟨a, vs, G, rfl, h1, h2, h3⟩ := e2
  refine ⟨a, vs, G, ?_, h1, h2, h3⟩
  cases e : σ[i]? with
  | none => rw [e] at e1; cases e1
  | some y => rw [e] at e1; have z : y = some (.ref a) := e1; rw [z]
theorem HeldF.relist (h : HeldF K m B H fp σ ss tv ts) (hi : i < ss.length) {a : Addr} {vs vs' : List V} {G G' : List Addr} {l' : List D} (hx : σ[i]? = some (some (.ref a))) (ha : H a = some (.lst vs)) (hf : fp (.v i) = a :: G)
    (nw : RepOs K H l' vs' G') (nd : G'.Nodup) (dj : ∀ b ∈ G', b ∈ G ∨ ((∀ o, b ∉ fp o) ∧ B b = none)) (ht : noView (.v i) ts = true) :
    Held K m B (upd H a (.lst vs')) σ ((ss.map (kill (.v i))).set i (.own (.lst l'))) tv ts := by
  have tk : TK H (upd H a (.lst vs')) := TK.upd ha fun z => z
  have n1 := h.nod (.v i)
  rw [hf] at n1
  have n2 := List.nodup_cons.mp n1
  have aG' : a ∉ G' := fun z => by
    rcases dj a z with q | q
    · exact n2.1 q
    · exact q.1 (.v i) (by rw [hf]; exact List.mem_cons_self)
  refine ⟨_, h.change (v := .ref a) (F' := a :: G') (d' := .lst l') (by rw [hx]; rfl) hi tk (fun b o hb e => ?_) ?_ (List.nodup_cons.mpr ⟨aG', nd⟩) (fun b hb => ?_) ht⟩
  · rw [upd_ne (fun z => hb (by rw [z, hf]; exact List.mem_cons_self))]
    exact e
  · unfold RepO
    exact ⟨a, vs', G', rfl, upd_same, rfl, nw.frame tk fun b hb => upd_ne fun z => aG' (z ▸ hb)⟩
  · rcases List.mem_cons.mp hb with rfl | hb
    · exact .inl (by rw [hf]; exact List.mem_cons_self)
    · rcases dj b hb with q | q
      · exact .inl (by rw [hf]; exact List.mem_cons_of_mem _ q)
      · exact .inr q
end
theorem ev_append {i : Nat} {x : Str} {px : Pos} {l0 : List D} (hN : X.N[i]? = some x) (hv : Vis X.env.scope x) (h0 : ss[i]? = some (.own (.lst l0))) (hv1 : noView (.v i) ts = true)
    (h : EV X e ss ts fun s r => ∃ l d, s[i]? = some (.own (.lst l)) ∧ r = .own d ∧ l.length < 1000000 ∧ Φ ((s.map (kill (.v i))).set i (.own (.lst (l ++ [d])))) (.own .non))
    (hd : (x == ("__debug__" : Str)) = false := by decide) (hcd : (x == ("__classdict__" : Str)) = false := by decide)
    (hbase : attributeBase (.Name x px) "append" X.env (eval (.Name x px) X.env) = eval (.Name x px) X.env := by rfl)
    (hfew : ((backTo pos (starEach [e] X.env)).all (fun x => !x.1) && (backToKw pos (keywordEach [] X.env)).all (fun x => x.1.isSome)
      && decide ([e].length + ([] : List Keyword).length + (if ([] : List Keyword).isEmpty then 0 else 1) < 30)) = true := by rfl)
    (hline : (apos.endLine == pos.line) = true := by rfl) (hs : starEach [e] X.env = (false, eval e X.env) :: starEach [] X.env := by rfl) (hplain : (backTo pos (starEach [] X.env)).any (·.1) = false := by rfl) :
    EV X (.Call (.Attribute (.Name x px) "append" apos) [e] [] pos) ss ts Φ := fun m B σ tv H Q hm hh kk => by
  refine toE (pe_bm PySem.F.plainAttrs_list PySem.F.slot_list_append PySem.F.type_list_append mt_append (pe_var hN hv hd hcd) (pa_cons pe_w pa_nil hs) hbase hfew hline hs hplain) ?_
  obtain ⟨fp, hf⟩ := id hh
  obtain ⟨a, vs, G, x1, a1, _, _⟩ := hf.lst h0
  refine ⟨.ref a, x1, .inl ⟨rfl, vs, SqL.of a1⟩, ?_⟩
  refine h m B σ tv H _ hm hh fun s r y H1 ⟨l, d, hi, er, hl, q⟩ ⟨fp1, h1⟩ => ?_
  subst er
  obtain ⟨fp2, F2, h2, s2, r2, n2, o2, b2, _⟩ := h1.take hm
  obtain ⟨a', vs', G', x2, a2, f2, g2⟩ := h2.lst hi
  rw [x1] at x2
  cases x2
  have lv := g2.reps.length
  refine ⟨a, vs', y, rfl, rfl, a2, Nat.lt_trans (by omega : vs'.length < 1000000) (by decide), ?_⟩
  have nd := h2.nod (.v i)
  rw [f2] at nd
  have nd2 := (List.nodup_cons.mp nd).2
  have h3 := h2.relist (getElem?_lt hi) x1 a2 f2 (g2.append (RepOs.one r2)) (List.nodup_append.mpr ⟨nd2, n2, fun b hb c hc z => by
    subst z
    exact o2 b hc (.v i) (by rw [f2]; exact List.mem_cons_of_mem _ hb)⟩) (fun b hb => (List.mem_append.mp hb).elim .inl fun z => .inr ⟨o2 b z, b2 b z⟩) hv1
  exact kk _ _ .non _ q (h3.pushF o_non)
end
end DL
namespace DL
open PySem PySem.Spec PyProof.Rows L2
mutual
def D.pl : Nat → D → Bool
  | _, .non => true
  | _, .bl _ => false
  | _, .int _ => true
  | _, .str x => PyData.strOk x
  | _, .raw _ => false
  | _, .fz _ => false
  | _, .ins _ _ _ => false
  | _, .exc _ _ _ => false
  | _, .dct _ _ => false
  | _, .nam _ _ => false
  | _, .ar _ _ _ => false
  | 0, .tup _ => false
  | 0, .lst _ => false
  | n + 1, .tup l => D.pls n l
  | n + 1, .lst l => D.pls n l
def D.pls : Nat → List D → Bool
  | _, [] => true
  | n, d :: ds => D.pl n d && D.pls n ds
end
mutual
theorem D.pl_py : ∀ {n : Nat} {d : D}, d.pl n = true → ∃ p, d.py = some p ∧ p.canLay0 = true ∧ p.depth ≤ n
  | _, .non, _ => ⟨.none, by unfold D.py; rfl, by unfold PyData.canLay0; rfl, by unfold PyData.depth; exact Nat.zero_le _⟩
  | _, .bl _, h => by unfold D.pl at h; cases h
  | _, .int i, _ => ⟨.int i, by unfold D.py; rfl, by unfold PyData.canLay0; rfl, by unfold PyData.depth; exact Nat.zero_le _⟩
  | _, .str x, h => ⟨.str x, by unfold D.py; rfl, by unfold D.pl at h; unfold PyData.canLay0; exact h, by unfold PyData.depth; exact Nat.zero_le _⟩
  | _, .raw _, h => by unfold D.pl at h; cases h
  | _, .fz _, h => by unfold D.pl at h; cases h
  | _, .ins _ _ _, h => by unfold D.pl at h; cases h
  | _, .exc _ _ _, h => by unfold D.pl at h; cases h
  | _, .dct _ _, h => by unfold D.pl at h; cases h
  | _, .nam _ _, h => by unfold D.pl at h; cases h
  | _, .ar _ _ _, h => by unfold D.pl at h; cases h
  | 0, .tup _, h => by unfold D.pl at h; cases h
  | 0, .lst _, h => by unfold D.pl at h; cases h
  | n + 1, .tup l, h => by
    unfold D.pl at h
    obtain ⟨ps, e1, e2, e3⟩ := D.pls_py h
    exact ⟨.tuple ps, by unfold D.py; rw [e1]; rfl, by unfold PyData.canLay0; exact e2, by unfold PyData.depth; omega⟩
  | n + 1, .lst l, h => by
    unfold D.pl at h
    obtain ⟨ps, e1, e2, e3⟩ := D.pls_py h
    exact ⟨.list ps, by unfold D.py; rw [e1]; rfl, by unfold PyData.canLay0; exact e2, by unfold PyData.depth; omega⟩
theorem D.pls_py : ∀ {n : Nat} {ds : List D}, D.pls n ds = true → ∃ ps, D.pys ds = some ps ∧ PyData.canLayAll0 ps = true ∧ PyData.depthAll ps ≤ n
  | _, [], _ => ⟨[], by unfold D.pys; rfl, by unfold PyData.canLayAll0; rfl, by unfold PyData.depthAll; exact Nat.zero_le _⟩
  | n, d :: ds, h => by
    unfold D.pls at h
    rw [Bool.and_eq_true] at h
    obtain ⟨p, e1, e2, e3⟩ := D.pl_py h.1
    obtain ⟨ps, f1, f2, f3⟩ := D.pls_py h.2
    refine ⟨p :: ps, by unfold D.pys; rw [e1, f1], by unfold PyData.canLayAll0; rw [e2, f2]; rfl, by unfold PyData.depthAll; omega⟩
end
noncomputable def deq (x y : D) : Bool := @decide (x = y) (Classical.propDecidable _)
theorem deq_iff {x y : D} : deq x y = true ↔ x = y := by
  unfold deq
  exact ⟨fun h => @of_decide_eq_true _ (Classical.propDecidable _) h, fun h => @decide_eq_true _ (Classical.propDecidable _) h⟩
theorem deq_self {x : D} : deq x x = true := deq_iff.mpr rfl
theorem deq_of {x y : D} (h : x = y) : deq x y = true := deq_iff.mpr h
theorem deq_not {x y : D} (h : x ≠ y) : deq x y = false := by
  cases e : deq x y with
  | false => rfl
  | true => exact absurd (deq_iff.mp e) h
mutual
theorem D.eqv_iff : ∀ {n m : Nat} {d e : D} {p q : PyData}, d.pl n = true → e.pl m = true → d.py = some p → e.py = some q → (PyData.eqv p q = true ↔ d = e)
  | n, m, d, e, p, q, h1, h2, h3, h4 => by
    cases d with
    | bl _ => unfold D.pl at h1; cases h1
    | raw _ => unfold D.pl at h1; cases h1
    | fz _ => unfold D.pl at h1; cases h1
    | ins _ _ _ => unfold D.pl at h1; cases h1
    | exc _ _ _ => unfold D.pl at h1; cases h1
    | dct _ _ => unfold D.pl at h1; cases h1
    | nam _ _ => unfold D.pl at h1; cases h1
    | ar _ _ _ => unfold D.pl at h1; cases h1
    | non =>
      unfold D.py at h3; cases h3
      cases e with
      | bl _ => unfold D.pl at h2; cases h2
      | raw _ => unfold D.pl at h2; cases h2
      | fz _ => unfold D.pl at h2; cases h2
      | ins _ _ _ => unfold D.pl at h2; cases h2
      | exc _ _ _ => unfold D.pl at h2; cases h2
      | dct _ _ => unfold D.pl at h2; cases h2
      | nam _ _ => unfold D.pl at h2; cases h2
      | ar _ _ _ => unfold D.pl at h2; cases h2
      | non => unfold D.py at h4; cases h4; simp [PyData.eqv]
      | int _ => unfold D.py at h4; cases h4; simp [PyData.eqv]
      | str _ => unfold D.py at h4; cases h4; simp [PyData.eqv]
      | tup _ => unfold D.py at h4; obtain ⟨_, _, rfl⟩ := Option.map_eq_some_iff.mp h4; simp [PyData.eqv]
      | lst _ => unfold D.py at h4; obtain ⟨_, _, rfl⟩ := Option.map_eq_some_iff.mp h4; simp [PyData.eqv]
    | int i =>
      unfold D.py at h3; cases h3
      cases e with
      | bl _ => unfold D.pl at h2; cases h2
      | raw _ => unfold D.pl at h2; cases h2
      | fz _ => unfold D.pl at h2; cases h2
      | ins _ _ _ => unfold D.pl at h2; cases h2
      | exc _ _ _ => unfold D.pl at h2; cases h2
      | dct _ _ => unfold D.pl at h2; cases h2
      | nam _ _ => unfold D.pl at h2; cases h2
      | ar _ _ _ => unfold D.pl at h2; cases h2
      | non => unfold D.py at h4; cases h4; simp [PyData.eqv]
      | int _ => unfold D.py at h4; cases h4; simp [PyData.eqv]
      | str _ => unfold D.py at h4; cases h4; simp [PyData.eqv]
      | tup _ => unfold D.py at h4; obtain ⟨_, _, rfl⟩ := Option.map_eq_some_iff.mp h4; simp [PyData.eqv]
      | lst _ => unfold D.py at h4; obtain ⟨_, _, rfl⟩ := Option.map_eq_some_iff.mp h4; simp [PyData.eqv]
    | str i =>
      unfold D.py at h3; cases h3
      cases e with
      | bl _ => unfold D.pl at h2; cases h2
      | raw _ => unfold D.pl at h2; cases h2
      | fz _ => unfold D.pl at h2; cases h2
      | ins _ _ _ => unfold D.pl at h2; cases h2
      | exc _ _ _ => unfold D.pl at h2; cases h2
      | dct _ _ => unfold D.pl at h2; cases h2
      | nam _ _ => unfold D.pl at h2; cases h2
      | ar _ _ _ => unfold D.pl at h2; cases h2
      | non => unfold D.py at h4; cases h4; simp [PyData.eqv]
      | int _ => unfold D.py at h4; cases h4; simp [PyData.eqv]
      | str _ => unfold D.py at h4; cases h4; simp [PyData.eqv]
      | tup _ => unfold D.py at h4; obtain ⟨_, _, rfl⟩ := Option.map_eq_some_iff.mp h4; simp [PyData.eqv]
      | lst _ => unfold D.py at h4; obtain ⟨_, _, rfl⟩ := Option.map_eq_some_iff.mp h4; simp [PyData.eqv]
    | tup l =>
      unfold D.py at h3; obtain ⟨ps, hp, rfl⟩ := Option.map_eq_some_iff.mp h3
      cases n with
      | zero => unfold D.pl at h1; cases h1
      | succ n =>
        unfold D.pl at h1
        cases e with
        | bl _ => unfold D.pl at h2; cases h2
        | raw _ => unfold D.pl at h2; cases h2
        | fz _ => unfold D.pl at h2; cases h2
        | ins _ _ _ => unfold D.pl at h2; cases h2
        | exc _ _ _ => unfold D.pl at h2; cases h2
        | dct _ _ => unfold D.pl at h2; cases h2
        | nam _ _ => unfold D.pl at h2; cases h2
        | ar _ _ _ => unfold D.pl at h2; cases h2
        | non => unfold D.py at h4; cases h4; simp [PyData.eqv]
        | int _ => unfold D.py at h4; cases h4; simp [PyData.eqv]
        | str _ => unfold D.py at h4; cases h4; simp [PyData.eqv]
        | lst _ => unfold D.py at h4; obtain ⟨_, _, rfl⟩ := Option.map_eq_some_iff.mp h4; simp [PyData.eqv]
        | tup k =>
          cases m with
          | zero => unfold D.pl at h2; cases h2
          | succ m =>
            unfold D.pl at h2
            unfold D.py at h4
            obtain ⟨qs, hq, rfl⟩ := Option.map_eq_some_iff.mp h4
            have := D.eqvs_iff h1 h2 hp hq
            simpa [PyData.eqv] using this
    | lst l =>
      unfold D.py at h3; obtain ⟨ps, hp, rfl⟩ := Option.map_eq_some_iff.mp h3
      cases n with
      | zero => unfold D.pl at h1; cases h1
      | succ n =>
        unfold D.pl at h1
        cases e with
        | bl _ => unfold D.pl at h2; cases h2
        | raw _ => unfold D.pl at h2; cases h2
        | fz _ => unfold D.pl at h2; cases h2
        | ins _ _ _ => unfold D.pl at h2; cases h2
        | exc _ _ _ => unfold D.pl at h2; cases h2
        | dct _ _ => unfold D.pl at h2; cases h2
        | nam _ _ => unfold D.pl at h2; cases h2
        | ar _ _ _ => unfold D.pl at h2; cases h2
        | non => unfold D.py at h4; cases h4; simp [PyData.eqv]
        | int _ => unfold D.py at h4; cases h4; simp [PyData.eqv]
        | str _ => unfold D.py at h4; cases h4; simp [PyData.eqv]
        | tup _ => unfold D.py at h4; obtain ⟨_, _, rfl⟩ := Option.map_eq_some_iff.mp h4; simp [PyData.eqv]
        | lst k =>
          cases m with
          | zero => unfold D.pl at h2; cases h2
          | succ m =>
            unfold D.pl at h2
            unfold D.py at h4
            obtain ⟨qs, hq, rfl⟩ := Option.map_eq_some_iff.mp h4
            have := D.eqvs_iff h1 h2 hp hq
            simpa [PyData.eqv] using this
  termination_by n _ _ _ _ _ _ _ _ _ => (n, 0)
theorem D.eqvs_iff : ∀ {n m : Nat} {ds es : List D} {ps qs : List PyData}, D.pls n ds = true → D.pls m es = true → D.pys ds = some ps → D.pys es = some qs → (PyData.eqvAll ps qs = true ↔ ds = es)
  | n, m, [], [], ps, qs, _, _, h3, h4 => by unfold D.pys at h3 h4; cases h3; cases h4; simp [PyData.eqvAll]
  | n, m, [], e :: es, ps, qs, _, h2, h3, h4 => by
    unfold D.pys at h3; cases h3
    unfold D.pys at h4
    split at h4
    · cases h4; simp [PyData.eqvAll]
    · cases h4
  | n, m, d :: ds, [], ps, qs, h1, _, h3, h4 => by
    unfold D.pys at h4; cases h4
    unfold D.pys at h3
    split at h3
    · cases h3; simp [PyData.eqvAll]
    · cases h3
  | n, m, d :: ds, e :: es, ps, qs, h1, h2, h3, h4 => by
    unfold D.pls at h1 h2
    rw [Bool.and_eq_true] at h1 h2
    unfold D.pys at h3 h4
    split at h3
    · rename_i p ps' p1 p2
      cases h3
      split at h4
      · rename_i q qs' q1 q2
        cases h4
        have a := D.eqv_iff h1.1 h2.1 p1 q1
        have b := D.eqvs_iff h1.2 h2.2 p2 q2
        simp only [PyData.eqvAll, Bool.and_eq_true, a, b, List.cons.injEq]
      · cases h4
    · cases h3
  termination_by n _ ds _ _ _ _ _ _ _ => (n, ds.length + 1)
end
theorem D.eqv_eq {n m : Nat} {d e : D} {p q : PyData} (h1 : d.pl n = true) (h2 : e.pl m = true) (h3 : d.py = some p) (h4 : e.py = some q) : PyData.eqv p q = deq d e := by
  have := D.eqv_iff h1 h2 h3 h4
  cases e1 : PyData.eqv p q with
  | true => exact (deq_of (this.mp e1)).symm
  | false => exact (deq_not fun z => by rw [this.mpr z] at e1; cases e1).symm
theorem D.shaped_of {n : Nat} {d : D} {p : PyData} (h : d.pl n = true) (hn : n ≤ 64) (e : d.py = some p) : SeqAt.shaped p = true := by
  obtain ⟨p', e1, e2, e3⟩ := D.pl_py h
  rw [e] at e1
  cases e1
  unfold SeqAt.shaped
  rw [e2, decide_eq_true (Nat.le_trans e3 hn)]
  rfl
section
variable {X : Cx} {fx : List Nat} {ss ts : List Slot} {Φ : List Slot → Slot → Prop} {e a b c tg it o : Expr} {es : List Expr} {pos p2 apos : Pos} {E : DE} {Θ : List Slot → Bool → Prop}
theorem ev_varPF {i : Nat} {x : Str} {d : D} (hN : X.N[i]? = some x) (hv : Vis X.env.scope x) (hs : ss[i]? = some (.par d)) (hf : d.flat = true) (q : Φ ss (.own d)) (hd : (x == ("__debug__" : Str)) = false := by decide) (hcd : (x == ("__classdict__" : Str)) = false := by decide) :
    EV X (.Name x pos) ss ts Φ := fun m B σ tv H Q hm h k => by
  refine toE (pe_var hN hv hd hcd) ?_
  obtain ⟨fp, h⟩ := h
  obtain ⟨v, e1, e2⟩ := h.var i _ hs
  have ex : σ[i]? = some (some v) := by
    cases e : σ[i]? with
    | none => rw [e] at e1; cases e1
    | some y => rw [e] at e1; have z : y = some v := e1; rw [z]
  exact ⟨v, ex, k ss _ v H q ⟨_, h.pushF ((e2.mono h.base).flatO hf)⟩⟩
theorem tv_neP (n : Nat) (hn : n ≤ 64) (hu : X.A.units + 64 < cLine) (h : EV X a ss ts fun s1 r1 => EV X b s1 (r1 :: ts) fun s2 r2 => ∃ d1 d2, r1.is d1 ∧ r2.is d2 ∧ d1.pl n = true ∧ d2.pl n = true ∧ Θ s2 (!deq d1 d2)) : TV X (.Compare a [.NotEq] [b] pos) ss ts Θ :=
  tv_neD hu (h.imp fun s1 r1 h1 => h1.imp fun s2 r2 ⟨d1, d2, e1, e2, p1, p2, q⟩ => by
    obtain ⟨x, x1, x2, x3⟩ := D.pl_py p1
    obtain ⟨y, y1, y2, y3⟩ := D.pl_py p2
    exact ⟨d1, d2, x, y, e1, e2, x1, y1, D.shaped_of p1 hn x1, D.shaped_of p2 hn y1, by rw [D.eqv_eq p1 p2 x1 y1]; exact q⟩)
theorem ev_eqP (n : Nat) (hn : n ≤ 64) (hu : X.A.units + 64 < cLine) (h : EV X a ss ts fun s1 r1 => EV X b s1 (r1 :: ts) fun s2 r2 => ∃ d1 d2, r1.is d1 ∧ r2.is d2 ∧ d1.pl n = true ∧ d2.pl n = true ∧ Φ s2 (.own (.bl (deq d1 d2)))) : EV X (.Compare a [.Eq] [b] pos) ss ts Φ :=
  ev_eqD hu (h.imp fun s1 r1 h1 => h1.imp fun s2 r2 ⟨d1, d2, e1, e2, p1, p2, q⟩ => by
    obtain ⟨x, x1, x2, x3⟩ := D.pl_py p1
    obtain ⟨y, y1, y2, y3⟩ := D.pl_py p2
    exact ⟨d1, d2, x, y, e1, e2, x1, y1, D.shaped_of p1 hn x1, D.shaped_of p2 hn y1, by rw [D.eqv_eq p1 p2 x1 y1]; exact q⟩)
theorem sv_norm {sts : List Stmt} {ss' : List Slot} (e : ss = ss') (h : SV X fx sts ss' ts E) : SV X fx sts ss ts E := by rw [e]; exact h
theorem sv_forget {sts : List Stmt} (vs : List Nat) (h : SV X fx sts (wipeS vs ss) ts E) : SV X fx sts ss ts E := fun B σ tv H D hh k => h B σ tv H D (hh.other rfl fun _ _ => rfl) k
def addR (K : PySem.W.Frag) : R2 := fun x y H Q => (∃ i j, x = .int i ∧ y = .int j ∧ Q (.int (i + j)) H) ∨ (∃ i j, x = .str i ∧ y = .str j ∧ i.length + j.length ≤ sizeLine ∧ Q (.str (i ++ j)) H)
theorem op_addR : OpR X (binaryOp .Add) (addR X.K) := by
  intro pins s σ H x y v u Q I rx ry h
  rcases h with h | h
  · exact op_add pins s σ H x y v u Q I rx ry h
  · exact op_add_str pins s σ H x y v u Q I rx ry h
theorem ev_addG (h : EV X a ss ts fun s1 r1 => EV X b s1 (r1 :: ts) fun s2 r2 => (∃ i j, r1.is (.int i) ∧ r2.is (.int j) ∧ Φ s2 (.own (.int (i + j)))) ∨ ∃ x y, r1.is (.str x) ∧ r2.is (.str y) ∧ x.length + y.length ≤ 1000000 ∧ Φ s2 (.own (.str (x ++ y)))) : EV X (.BinOp a .Add b pos) ss ts Φ :=
  ev_op2 op_addR (h.imp fun s1 r1 h1 => h1.imp fun s2 r2 hh => by
    rcases hh with ⟨i, j, e1, e2, q⟩ | ⟨i, j, e1, e2, hc, q⟩
    · exact ⟨_, _, _, e1, e2, fun H x y rx ry => ⟨.int (i + j), fun H => o_int, fun Q q => by
        rw [rep_int] at rx ry
        exact .inl ⟨i, j, rx, ry, q⟩⟩, q⟩
    · exact ⟨_, _, _, e1, e2, fun H x y rx ry => ⟨.str (i ++ j), fun H => o_str, fun Q q => by
        rw [rep_str] at rx ry
        exact .inr ⟨i, j, rx, ry, Nat.le_trans hc (by decide), q⟩⟩, q⟩)
theorem ev_ix (hs : PlainIx b) (h : EV X a ss ts fun s1 r1 => EV X b s1 (r1 :: ts) fun s2 r2 => ∃ d0 l i d, r1.is d0 ∧ d0.seqL = some l ∧ r2.is (.int i) ∧ atI l i = some d ∧ d.flat = true ∧ Φ s2 (.own d)) : EV X (.Subscript a b pos) ss ts Φ := fun m B σ tv H Q hm hh k => by
  refine toE (pe_ix ix_seq pe_w pe_w hs) ?_
  refine h m B σ tv H _ hm hh fun s1 r1 x H1 h1 hh1 => ?_
  refine h1 m B σ (x :: tv) H1 _ hm.up hh1 fun s2 r2 y H2 ⟨d0, l, i, d, e1, e2, e3, e4, fl, q⟩ hh2 => ?_
  have z1 := hh2.top2 e1
  have z2 := hh2.top e3
  rw [rep_int] at z2
  obtain ⟨p, vs, rfl, sq, rr⟩ := D.seq_rep z1 e2
  have hl := rr.length
  unfold atI at e4
  rw [← hl] at e4
  obtain ⟨j, j1, j2⟩ := Option.bind_eq_some_iff.mp e4
  obtain ⟨w, w1, w2⟩ := rr.get j2
  have e5 : atI vs i = some w := by unfold atI; rw [j1]; exact w1
  have fin := k s2 _ w H2 q (((hh2.pop hm.up).pop hm).pushF (w2.flatO fl))
  rcases sq with sq | sq
  · exact .inl ⟨p, vs, i, w, rfl, z2, sq, e5, fin⟩
  · exact .inr (.inl ⟨p, vs, i, w, rfl, z2, sq, e5, fin⟩)
end
end DL
namespace DL
open PySem PySem.Spec PyProof.Rows L2
section
variable {X : Cx} {fx : List Nat} {ss ts : List Slot} {Φ : List Slot → Slot → Prop} {e a b c tg it o : Expr} {es : List Expr} {pos p2 apos px py : Pos} {E : DE} {Θ : List Slot → Bool → Prop} {x y : Str} {d : D} {ow : Own} {Ψ : List Slot → List Slot → List El → Prop}
theorem vP (i : Nat) (q : Φ ss (.par d)) (hs : ss[i]? = some (.par d) := by rfl) (hN : X.N[i]? = some x := by rfl) (hv : Vis X.env.scope x := by first | exact Or.inl rfl | exact Or.inr (Or.inl rfl) | exact Or.inr (Or.inr rfl)) (hd : (x == ("__debug__" : Str)) = false := by decide) (hcd : (x == ("__classdict__" : Str)) = false := by decide) :
    EV X (.Name x pos) ss ts Φ := ev_varP hN hv hs q hd hcd
theorem vV (i : Nat) (q : Φ ss (.view ow d)) (hs : ss[i]? = some (.view ow d) := by rfl) (hN : X.N[i]? = some x := by rfl) (hv : Vis X.env.scope x := by first | exact Or.inl rfl | exact Or.inr (Or.inl rfl) | exact Or.inr (Or.inr rfl)) (hd : (x == ("__debug__" : Str)) = false := by decide) (hcd : (x == ("__classdict__" : Str)) = false := by decide) :
    EV X (.Name x pos) ss ts Φ := ev_varV hN hv hs q hd hcd
theorem vL (i : Nat) (q : Φ ss (.view (.v i) d)) (hs : ss[i]? = some (.own d) := by rfl) (hN : X.N[i]? = some x := by rfl) (hv : Vis X.env.scope x := by first | exact Or.inl rfl | exact Or.inr (Or.inl rfl) | exact Or.inr (Or.inr rfl)) (hd : (x == ("__debug__" : Str)) = false := by decide) (hcd : (x == ("__classdict__" : Str)) = false := by decide) :
    EV X (.Name x pos) ss ts Φ := ev_varL hN hv hs q hd hcd
theorem vM (i : Nat) (q : Φ ((ss.map (kill (.v i))).set i .no) (.own d)) (hs : ss[i]? = some (.own d) := by rfl) (ht : noView (.v i) ts = true := by rfl) (hN : X.N[i]? = some x := by rfl) (hv : Vis X.env.scope x := by first | exact Or.inl rfl | exact Or.inr (Or.inl rfl) | exact Or.inr (Or.inr rfl)) (hd : (x == ("__debug__" : Str)) = false := by decide) (hcd : (x == ("__classdict__" : Str)) = false := by decide) :
    EV X (.Name x pos) ss ts Φ := ev_varM hN hv hs ht q hd hcd
theorem sSet (i : Nat) {pos' : Pos} (hN : X.N.Nodup) (h : EV X e ss ts fun s r => s.length = ss.length ∧ noView (.v i) (r :: ts) = true ∧ E.nx ((s.map (kill (.v i))).set i r)) (hi : X.N[i]? = some x := by rfl) (hx : Loc X.env.scope x := by first | exact Or.inl rfl | exact Or.inr rfl) (hfx : i ∉ fx := by decide) (hil : (ss[i]?).isSome = true := by rfl)
    (hs : swapsWith e (some (.Name x pos')) pos.line X.env = pure false := by rfl) (hf : X.fn x = true ∨ X.env.scope.names.lookup x = some .local := by first | exact .inl rfl | exact .inr rfl) : S1 X fx (.Assign [.Name x pos'] e pos) ss ts E :=
  s1_set hN hi hx hfx hil h hs hf
theorem sSetLc (i : Nat) {elt iter : Expr} {ifs : List Expr} {scope : Scope} {spos : Pos} (own : List (Str × Nat)) (hN : X.N.Nodup) (ok : BlkOk X.N X.env.scope scope own)
    (h : IV X tg iter ss ts fun s1 rs els => ∃ I : Nat → List Slot → List D → Prop, I 0 (wipeS (own.map (·.2)) s1) [] ∧
      (∀ i el s acc, els[i]? = some el → I i s acc → LcTurn X elt tg ifs scope (own.map (·.2)) el s (rs ++ ts) acc (I (i + 1))) ∧
      ∀ s acc, I els.length s acc → s.length = ss.length ∧ noView (.v i) ts = true ∧ E.nx (((s.map (killT ts.length)).map (kill (.v i))).set i (.own (.lst acc))))
    (hc : X.calm = true := by rfl) (hy : X.N[i]? = some y := by rfl) (hyl : X.env.scope.names.lookup y = some .local := by rfl)
    (hfx : i ∉ fx := by decide) (hil : (ss[i]?).isSome = true := by rfl)
    (hsw : swapsWith (.ListComp elt [⟨tg, iter, ifs, 0⟩] scope pos) (some (.Name y py)) spos.line X.env = pure true := by exact sw_true rfl rfl rfl (by decide +kernel))
    (hs : ∀ x, foldedSetIterable iter X.env x = pure x := by intro _; rfl) : S1 X fx (.Assign [.Name y py] (.ListComp elt [⟨tg, iter, ifs, 0⟩] scope pos) spos) ss ts E :=
  s1_setLc own hc hN hy hyl hsw ok hfx hil h hs
theorem eLc {elt iter : Expr} {ifs : List Expr} {scope : Scope} (own : List (Str × Nat)) (hN : X.N.Nodup) (ok : BlkOk X.N X.env.scope scope own)
    (h : IV X tg iter ss ts fun s1 rs els => ∃ I : Nat → List Slot → List D → Prop, I 0 (wipeS (own.map (·.2)) s1) [] ∧
      (∀ i el s acc, els[i]? = some el → I i s acc → LcTurn X elt tg ifs scope (own.map (·.2)) el s (rs ++ ts) acc (I (i + 1))) ∧ ∀ s acc, I els.length s acc → Φ (s.map (killT ts.length)) (.own (.lst acc)))
    (hc : X.calm = true := by rfl)
    (hs : ∀ x, foldedSetIterable iter X.env x = pure x := by intro _; rfl) : EV X (.ListComp elt [⟨tg, iter, ifs, 0⟩] scope pos) ss ts Φ := ev_lc own hc hN ok h hs
theorem sFor (as : List Nat) {sts : List Stmt} (h : IV X tg it ss ts fun s1 rs els => ∃ I : Nat → List Slot → Prop, I 0 s1 ∧
      (∀ i el s, els[i]? = some el → I i s → GV X tg as el s (rs ++ ts) fun s' => SV X fx sts s' (rs ++ ts)
        (E.turn (I (i + 1)) ts.length)) ∧
      ∀ s, I els.length s → E.nx (s.map (killT ts.length)))
    (hp : PassesOwn (model X.prog X.w) X.A X.env X.xe := by exact PassesOwn.never) (hc : X.calm = true := by rfl) (hfx : ∀ i, i ∈ fx → i ∉ as := by decide)
    (hs : ∀ x, foldedSetIterable it X.env x = pure x := by intro _; rfl) : S1 X fx (.For tg it sts [] pos) ss ts E := s1_for hp hc hfx h hs
theorem gOne (i : Nat) {s : Slot} {as : List Nat} {N : List Slot → Prop} (hN : X.N.Nodup) (q : N ((ss.map (kill (.v i))).set i s)) (hi : X.N[i]? = some x := by rfl) (hx : Loc X.env.scope x := by first | exact Or.inl rfl | exact Or.inr rfl) (ha : i ∈ as := by decide) (hil : (ss[i]?).isSome = true := by rfl) (n1 : noView (.v i) (s :: ts) = true := by rfl)
    (hf : X.fn x = true ∨ X.env.scope.names.lookup x = some .local := by first | exact .inl rfl | exact .inr rfl) : GV X (.Name x pos) as (.one s) ss ts N := gv_name hN hi hx ha hil n1 q hf
theorem gTwo (i j : Nat) {s1 s2 : Slot} {as : List Nat} {k : Nat} {N : List Slot → Prop} (hN : X.N.Nodup) (q : N ((((ss.map (kill (.v j))).set j s2).map (kill (.v i))).set i s1)) (hc : X.calm = true := by rfl) (hi : X.N[i]? = some x := by rfl) (hj : X.N[j]? = some y := by rfl) (hij : i ≠ j := by decide)
    (hx : Loc X.env.scope x := by first | exact Or.inl rfl | exact Or.inr rfl) (hy : Loc X.env.scope y := by first | exact Or.inl rfl | exact Or.inr rfl)
    (ha : i ∈ as := by decide) (hb : j ∈ as := by decide) (hil : (ss[i]?).isSome = true := by rfl) (hjl : (ss[j]?).isSome = true := by rfl) (n1 : noView (.v i) (s1 :: ts) = true := by rfl) (n2 : noView (.v j) (s2 :: s1 :: ts) = true := by rfl)
    (hf : X.fn x = true ∨ X.env.scope.names.lookup x = some .local := by first | exact .inl rfl | exact .inr rfl) (hg : X.fn y = true ∨ X.env.scope.names.lookup y = some .local := by first | exact .inl rfl | exact .inr rfl)
    (hn : (assignEach [.Name x px, .Name y py] X.env).length = 2 := by rfl) (hst : (assignEach [.Name x px, .Name y py] X.env).findIdx? (·.1) = none := by rfl)
    (hs1 : (assignEach [.Name x px, .Name y py] X.env).map (·.2) = assign (.Name x px) X.env :: (assignEach [.Name y py] X.env).map (·.2) := by rfl) (hs2 : (assignEach [.Name y py] X.env).map (·.2) = assign (.Name y py) X.env :: (assignEach [] X.env).map (·.2) := by rfl) :
    GV X (.Tuple [.Name x px, .Name y py] k pos) as (.two s1 s2) ss ts N := gv_two hc hN hi hj hij hx hy ha hb hil hjl n1 n2 q hf hg hn hst hs1 hs2
theorem eLst {k : Pos} (h : AV X es ss ts fun s rs => ∃ ds, rs = ds.map Slot.own ∧ ds.length ≤ 1000 ∧ Φ s (.own (.lst ds))) : EV X (.List es k) ss ts Φ := ev_lst h
theorem eApp (i : Nat) {l0 : List D} (h : EV X e ss ts fun s r => ∃ l d, s[i]? = some (.own (.lst l)) ∧ r = .own d ∧ l.length < 1000000 ∧ Φ ((s.map (kill (.v i))).set i (.own (.lst (l ++ [d])))) (.own .non))
    (hN : X.N[i]? = some x := by rfl) (hv : Vis X.env.scope x := by first | exact Or.inl rfl | exact Or.inr (Or.inl rfl) | exact Or.inr (Or.inr rfl)) (h0 : ss[i]? = some (.own (.lst l0)) := by rfl) (hv1 : noView (.v i) ts = true := by rfl)
    (hd : (x == ("__debug__" : Str)) = false := by decide) (hcd : (x == ("__classdict__" : Str)) = false := by decide)
    (hbase : attributeBase (.Name x px) "append" X.env (eval (.Name x px) X.env) = eval (.Name x px) X.env := by rfl)
    (hfew : ((backTo pos (starEach [e] X.env)).all (fun x => !x.1) && (backToKw pos (keywordEach [] X.env)).all (fun x => x.1.isSome)
      && decide ([e].length + ([] : List Keyword).length + (if ([] : List Keyword).isEmpty then 0 else 1) < 30)) = true := by rfl)
    (hline : (apos.endLine == pos.line) = true := by rfl) (hs : starEach [e] X.env = (false, eval e X.env) :: starEach [] X.env := by rfl) (hplain : (backTo pos (starEach [] X.env)).any (·.1) = false := by rfl) :
    EV X (.Call (.Attribute (.Name x px) "append" apos) [e] [] pos) ss ts Φ := ev_append hN hv h0 hv1 h hd hcd hbase hfew hline hs hplain
theorem els_get {α : Type} {l : List α} {f : α → El} {i : Nat} {el : El} (h : (l.map f)[i]? = some el) : ∃ x, l[i]? = some x ∧ el = f x := by
  rw [List.getElem?_map] at h
  obtain ⟨x, h1, h2⟩ := Option.map_eq_some_iff.mp h
  exact ⟨x, h1, h2.symm⟩
theorem els_get2 {α β : Type} {l : List α} {g : α → β} {f : β → El} {i : Nat} {el : El} (h : ((l.map g).map f)[i]? = some el) : ∃ x, l[i]? = some x ∧ el = f (g x) := by
  obtain ⟨y, h1, rfl⟩ := els_get h
  rw [List.getElem?_map] at h1
  obtain ⟨x, h2, rfl⟩ := Option.map_eq_some_iff.mp h1
  exact ⟨x, h2, rfl⟩
theorem els_range {n i : Nat} {f : Nat → El} {el : El} (h : ((List.range n).map f)[i]? = some el) : i < n ∧ el = f i := by
  obtain ⟨x, h1, rfl⟩ := els_get h
  obtain ⟨h2, h3⟩ := List.getElem?_eq_some_iff.mp h1
  simp at h2 h3
  subst h3
  exact ⟨h2, rfl⟩
theorem take_next {α : Type} {l : List α} {i : Nat} {x : α} (h : l[i]? = some x) : l.take (i + 1) = l.take i ++ [x] := by
  rw [List.take_add_one, h]
  rfl
theorem flat_map {α : Type} {l : List α} {f : α → D} (h : ∀ x, (f x).flat = true) : ∀ d ∈ l.map f, d.flat = true := fun d hd => by
  obtain ⟨x, _, rfl⟩ := List.mem_map.mp hd
  exact h x
theorem len_range {n : Nat} {f : Nat → El} : ((List.range n).map f).length = n := by simp
theorem pls_map {α : Type} {f : α → D} {n : Nat} : ∀ {l : List α}, (∀ x, x ∈ l → (f x).pl n = true) → D.pls n (l.map f) = true
  | [], _ => by rw [List.map_nil]; unfold D.pls; rfl
  | x :: l, h => by
    rw [List.map_cons]
    unfold D.pls
    rw [h x List.mem_cons_self, pls_map fun y hy => h y (List.mem_cons_of_mem _ hy)]
    rfl
theorem pl_lst {n : Nat} {l : List D} (h : D.pls n l = true) : (D.lst l).pl (n + 1) = true := by unfold D.pl; exact h
theorem pl_tup {n : Nat} {l : List D} (h : D.pls n l = true) : (D.tup l).pl (n + 1) = true := by unfold D.pl; exact h
theorem str_app_cps (x y : Str) : (x ++ y).cps.toList = x.cps.toList ++ y.cps.toList := by
  show (x.cps ++ y.cps).toList = _
  simp
theorem str_ext {x y : Str} (h : x.cps.toList = y.cps.toList) : x = y := by
  cases x; cases y
  congr 1
  exact Array.ext' h
end
end DL
namespace DL
open PySem PySem.Spec PyProof.Rows L2
section
variable {K : PySem.W.Frag} {x qual : Str} {params : Arguments} {body : List Stmt} {scope : Scope} {dvs : List V} {f : Addr} {fd : FuncData} {ps : List Str}
theorem b_of (F : FunD K x qual params body scope dvs [] f fd) (n j : Nat) (hd : dvs ≠ []) (hn : n + (dvs.length - j) = ps.length)
    (h : ∀ (T : Addr) (kV doc pm : Value) (an : Option Addr) (cdv ct : Value) (us its : List Value), us.length = n → its.length = dvs.length →
      ∃ k, bindArgs (PySem.W.fnOf x qual params body scope (.ref T) kV doc pm an cdv ct) ⟨us, []⟩ = seqItems? (.ref T) >>= k ∧ k (some its.toArray) = pure (ps.zip (us ++ its.drop j))) : ∃ ds, Vals (dvs.drop j) ds ∧ Binds K fd ps ds := FunD.binds1 F n j hd hn h
end
section
variable {X : Cx} {fx : List Nat} {ss ts : List Slot} {Φ : List Slot → Slot → Prop} {e : Expr} {es : List Expr} {pos p kpos : Pos} {kws : List Keyword} {Ω : List Slot → List Slot → Prop} {nm : Option Str}
def KV (X : Cx) (kws : List Keyword) (ss ts : List Slot) (Φ : List Slot → List Slot → Prop) : Prop :=
  ∀ m B σ tv H Q, Low m ts.length → Held X.K m B H σ ss tv ts → (∀ ss' rs vs H', Φ ss' rs → vs.length = rs.length → rs.length = kws.length → Held X.K m B H' σ ss' (vs.reverse ++ tv) (rs.reverse ++ ts) → Q vs H') → ∃ t, PK X kws t ∧ t σ H Q
def wK (X : Cx) (kws : List Keyword) : TA := fun σ H Q => ∃ t, PK X kws t ∧ t σ H Q
theorem pk_w : PK X kws (wK X kws) := ⟨fun pos pins s σ H Q I ⟨t, p, q⟩ => p.run pos pins s σ H Q I q⟩
theorem kv_nil (q : Ω ss []) : KV X [] ss ts Ω := fun m B σ tv H Q hm hh k => ⟨_, pk_nil, k ss [] [] H q rfl rfl hh⟩
theorem kv_cons (h : EV X e ss ts fun s r => KV X kws s (r :: ts) fun s' rs => Ω s' (r :: rs)) : KV X (⟨nm, e, kpos⟩ :: kws) ss ts Ω := fun m B σ tv H Q hm hh k => by
  refine ⟨_, pk_cons pe_w pk_w, ?_⟩
  refine h m B σ tv H _ hm hh fun s r x H1 h1 hh1 => ?_
  refine h1 m B σ (x :: tv) H1 _ hm.up hh1 fun s' rs vs H2 q l1 l2 hh2 => ?_
  refine k s' (r :: rs) (x :: vs) H2 q (by simp [l1]) (by simp [l2]) ?_
  rw [List.reverse_cons, List.reverse_cons, List.append_assoc, List.append_assoc]
  exact hh2
variable {CX : CXT} {k n : Nat} {f : Addr} {fd : FuncData} {ps ks : List Str} {x : Str} {EX : XK} {F : List D → (D → Prop) → Prop} {g : List Value → List Value → List Value} {gV : List V → List V → List V} {sp : Sp} {t tk : TA}
theorem pe_callN0 (F : FnOk X.prog X.w X.K X.mg X.base CX k f fd ps sp) (hr : Room k X.A) (hg : Gl X x) (hm : X.mg x = some (.ref f)) (hk : PySem.W.keepIn X.K (.ref f) = true) (hb : KBn X.K fd ps 0 ks g gV) (hx : Passes CX X EX)
    (hkw : PK X kws tk) (hall : (backToKw pos (keywordEach kws X.env)).all (·.1.isSome) = true := by rfl) (hks : (backToKw pos (keywordEach kws X.env)).filterMap (·.1) = ks := by rfl)
    (hdb : (x == ("__debug__" : Str)) = false := by decide)
    (hpl : ((backTo pos (starEach [] X.env)).any (·.1) || (backToKw pos (keywordEach kws X.env)).any (·.1.isNone)) = false := by rfl) :
    PE X (.Call (.Name x p) [] kws pos) (fun σ H Q => tk σ H fun zs H2 => zs.length = ks.length ∧ sp (gV [] zs) H2 Q EX) := by
  refine ⟨fun pins s σ H Q I h => ?_⟩
  refine wpAny_Call_Name_kw (ld_glob I hg hm ?_ hdb)
  refine PySem.W.callWith_KW0 (h₀ := X.base) I.ok.mod.kin hk hall (thn (hkw.run pos pins s σ H _ I h) fun ws s2 ⟨zs, H2, I2, rz, l2, q2⟩ => ⟨I2.kIn, ?_⟩) hpl
  rw [hks]
  exact run_fnN (us := []) (vs := []) F hr hb hx I2 .nil rz rfl l2 q2
theorem ev_callK0 (G : FnOk X.prog X.w X.K X.mg X.base CX k f fd ps (spP X.K F)) (hr : Room k X.A) (hg : Gl X x) (hm : X.mg x = some (.ref f)) (hk : PySem.W.keepIn X.K (.ref f) = true) (hb : KBn X.K fd ps 0 ks g gV) (hx : Passes CX X EX) (gD : List D → List D)
    (hrel : ∀ H (zs : List V) (es : List D), RepRs X.K H es zs → es.length = ks.length → RepRs X.K H (gD es) (gV [] zs))
    (h : KV X kws ss ts fun s rs => ∃ ds, isAll rs ds ∧ ds.length = ks.length ∧ F (gD ds) fun d => Φ s (.own d))
    (hall : (backToKw pos (keywordEach kws X.env)).all (·.1.isSome) = true := by rfl) (hks : (backToKw pos (keywordEach kws X.env)).filterMap (·.1) = ks := by rfl)
    (hdb : (x == ("__debug__" : Str)) = false := by decide)
    (hpl : ((backTo pos (starEach [] X.env)).any (·.1) || (backToKw pos (keywordEach kws X.env)).any (·.1.isNone)) = false := by rfl) : EV X (.Call (.Name x p) [] kws pos) ss ts Φ := fun m B σ tv H Q hm' hh kk => by
  refine toE (pe_callN0 G hr hg hm hk hb hx pk_w hall hks hdb hpl) ?_
  refine h m B σ tv H _ hm' hh fun s rs vs H1 ⟨ds, ia, hl, hF⟩ l1 l2 hh1 => ?_
  refine ⟨by rw [l1, ia.len, hl], ?_⟩
  have hpop := hh1.popA l1 hm'
  refine spP_use (hrel H1 vs ds (hh1.argsOf l1 ia hm') hl) hF fun d v H2 q n => ?_
  exact kk s _ v H2 q (hpop.new n)
end
end DL
namespace DL
open PySem PySem.Spec PyProof.Rows L2
structure DefAt (P : Program) (w : World) (K : PySem.W.Frag) (mg : Str → Option Value) (base : Heap) (CX : CXT) (k : Nat) (x : Str) (ps : List Str) (f : Addr) (fd : FuncData) (dds : List D) (F : List D → (D → Prop) → Prop) : Prop where
  ok : FnOk P w K mg base CX k f fd ps (spP K F)
  nm : mg x = some (.ref f)
  kp : PySem.W.keepIn K (.ref f) = true
  bd : ∃ (dvs : List V) (dfl : List Value), Binds K fd ps dfl ∧ Vals dvs dfl ∧ ∀ H, RepRs K H dds dvs
section
variable {X : Cx} {fx : List Nat} {ss ts : List Slot} {Φ : List Slot → Slot → Prop} {e : Expr} {es : List Expr} {pos p : Pos} {x : Str} {k j : Nat} {ps : List Str} {f : Addr} {fd : FuncData} {dds : List D} {F : List D → (D → Prop) → Prop}
theorem eCall (C : DefAt X.prog X.w X.K X.mg X.base CX0 k x ps f fd dds F) (hr : Room j X.A) (hj : k ≤ j) (h : AV X (e :: es) ss ts fun s rs => ∃ ds, isAll rs ds ∧ F (ds ++ dds) fun d => Φ s (.own d)) (hg : Gl X x := by rfl)
    (hdb : (x == ("__debug__" : Str)) = false := by decide) (he : starEach (e :: es) X.env = (false, eval e X.env) :: starEach es X.env := by rfl) (hpl : (backTo pos (starEach es X.env)).any (·.1) = false := by rfl) : EV X (.Call (.Name x p) (e :: es) [] pos) ss ts Φ := by
  obtain ⟨dvs, dfl, b1, b2, b3⟩ := C.bd
  exact ev_call C.ok (hr.mono hj) hg C.nm C.kp b1 b2 b3 pass0 h hdb he hpl
end
theorem reps_nil {K : PySem.W.Frag} {H : Hp} : RepRs K H [] [] := by unfold RepRs; rfl
theorem reps_cons {K : PySem.W.Frag} {H : Hp} {d : D} {ds : List D} {v : V} {vs : List V} (h : RepR K H d v) (r : RepRs K H ds vs) : RepRs K H (d :: ds) (v :: vs) := by unfold RepRs; exact ⟨v, vs, rfl, h, r⟩
theorem r_int {K : PySem.W.Frag} {H : Hp} {i : Int} : RepR K H (.int i) (.int i) := rep_int.mpr rfl
end DL
namespace DL
open PySem PySem.Spec PyProof.Rows L2
def fI (F : D → List D → (D → D → Prop) → Prop) : FSp := fun ss q => ∃ (d0 : D) (ds : List D) (k : D → D → Prop), ss = .own d0 :: ds.map Slot.par ∧ F d0 ds k ∧ ∀ d' d, k d' d → q (.own d' :: ds.map Slot.par) d
abbrev spI (K : PySem.W.Frag) (F : D → List D → (D → D → Prop) → Prop) : Sp := spG K (fI F)
section
variable {P : Program} {w : World} {K : PySem.W.Frag} {mg : Str → Option Value} {base : Heap}
theorem fun_okI {CX : CXT} {x qual : Str} {st : Stmt} {dvs : List V} {f : Addr} {fd : FuncData} {N ps : List Str} {k : Nat} {F : D → List D → (D → D → Prop) → Prop} (Fn : FunD K x qual (defArgs st) (defBody st) (defScope st) dvs [] f fd) (S : FnScope N ps (defScope st))
    (len : ∀ d0 ds q, F d0 ds q → ds.length + 1 = ps.length)
    (hbody : ∀ (cdv : Value) (A : Around) (outer : List Env) (s : Shared) (H : Hp) (E : XK), Room k (A.deeper (envOfC qual (defScope st) s.heap.objs.size f cdv)) → ∀ d0 ds (q : D → D → Prop), F d0 ds q →
      SV (cxOf CX P w K mg base N qual (defScope st) f cdv A outer s H E).nox [0] (defBody st) (.own d0 :: (ds.map Slot.par ++ List.replicate (N.length - ps.length) .no)) []
        { nx := fun s => ∃ d', s[0]? = some (.own d') ∧ q d' .non, rt := fun s r => ∃ d' d, s[0]? = some (.own d') ∧ r = .own d ∧ q d' d }) :
    FnOk P w K mg base CX (k + 1) f fd ps (spI K F) := by
  refine fun_ok [0] Fn S (fun ss q ⟨d0, ds, k, e, h, _⟩ => ?_) fun cdv A outer s H E hr ss q ⟨d0, ds, k, e, h, kq⟩ => ?_
  · rw [e]
    simpa using len d0 ds _ h
  · subst e
    have l := len d0 ds _ h
    have hpar : ∀ i, i < ps.length → i ∉ ([0] : List Nat) → ∃ d, (Slot.own d0 :: ds.map Slot.par)[i]? = some (.par d) := fun i hi n => by
      cases i with
      | zero => exact absurd List.mem_cons_self n
      | succ i => exact ⟨ds[i]'(by omega), by simp [show i < ds.length by omega]⟩
    have same : ∀ (s : List Slot) d', s[0]? = some (.own d') → ((Slot.own d0 :: ds.map Slot.par).zipIdx.map fun p => if p.2 ∈ ([0] : List Nat) then (s[p.2]?).getD .no else p.1) = .own d' :: ds.map Slot.par := fun s d' e => by
      refine List.ext_getElem? fun i => ?_
      rw [List.getElem?_map, List.getElem?_zipIdx]
      cases i with
      | zero =>
        show some (if 0 + 0 ∈ ([0] : List Nat) then (s[0 + 0]?).getD .no else _) = _
        rw [if_pos (by exact List.mem_cons_self), e]
        rfl
      | succ i =>
        rw [List.getElem?_cons_succ, List.getElem?_cons_succ]
        cases (ds.map Slot.par)[i]? with
        | none => rfl
        | some z =>
          show some (if 0 + (i + 1) ∈ ([0] : List Nat) then _ else z) = some z
          rw [if_neg (by simp)]
    intro B σ tv H0 D hh kk
    refine hbody cdv A outer s H E hr d0 ds _ h B σ tv H0 D hh ⟨fun s2 σ2 H2 ⟨d', e, q2⟩ h2 z => kk.nx s2 σ2 H2 ⟨hpar, by rw [same _ _ e]; exact kq _ _ q2⟩ h2 z, fun s2 r σ2 v H2 ⟨d', d, e, er, q2⟩ h2 z => kk.rt s2 r σ2 v H2 ⟨hpar, d, er, by rw [same _ _ e]; exact kq _ _ q2⟩ h2 z, fun _ _ _ z => z.elim, fun _ _ _ z => z.elim⟩
end
def Slot.isN (o : Own) (s : Slot) (d : D) : Prop := s = .own d ∨ s = .par d ∨ ∃ o', o' ≠ o ∧ s = .view o' d
theorem Slot.isN_own {o : Own} {d : D} : Slot.isN o (.own d) d := .inl rfl
theorem Slot.isN_par {o : Own} {d : D} : Slot.isN o (.par d) d := .inr (.inl rfl)
theorem Slot.isN_view {o o' : Own} {d : D} (n : o' ≠ o) : Slot.isN o (.view o' d) d := .inr (.inr ⟨o', n, rfl⟩)
def isNs (o : Own) : List Slot → List D → Prop
  | [], [] => True
  | r :: rs, d :: ds => r.isN o d ∧ isNs o rs ds
  | _, _ => False
theorem isNs.app {o : Own} : ∀ {as : List Slot} {bs : List Slot} {cs ds : List D}, isNs o as cs → isNs o bs ds → isNs o (as ++ bs) (cs ++ ds)
  | [], _, [], _, _, k => k
  | _ :: _, _, _ :: _, _, h, k => ⟨h.1, isNs.app h.2 k⟩
  | [], _, _ :: _, _, h, _ => h.elim
  | _ :: _, _, [], _, h, _ => h.elim
theorem isNs.rev {o : Own} : ∀ {rs : List Slot} {ds : List D}, isNs o rs ds → isNs o rs.reverse ds.reverse
  | [], [], _ => trivial
  | r :: rs, d :: ds, h => by
    rw [List.reverse_cons, List.reverse_cons]
    exact (isNs.rev h.2).app ⟨h.1, trivial⟩
  | [], _ :: _, h => h.elim
  | _ :: _, [], h => h.elim
open Classical in
noncomputable def hless (H : Hp) (F : List Addr) : Hp := fun a => if a ∈ F then none else H a
theorem hless_ex {H : Hp} {F : List Addr} : Ex (hless H F) H := fun a o h => by
  unfold hless at h
  split at h
  · cases h
  · exact h
theorem hless_at {H : Hp} {F : List Addr} {a : Addr} (h : a ∉ F) : hless H F a = H a := if_neg h
theorem hless_in {H : Hp} {F : List Addr} {a : Addr} (h : a ∈ F) : hless H F a = none := if_pos h
section
variable {K : PySem.W.Frag} {m : Nat → Prop} {B H H' : Hp} {σ : List (Option V)} {tv vs : List V} {v : V} {fp : Own → List Addr} {d : D} {l : List D} {i : Nat} {ss ts rs : List Slot} {r : Slot} {ds : List D}
theorem HeldF.topN (h : HeldF K m B H fp σ ss (v :: tv) (r :: ts)) (e : r.isN (.v i) d) : RepR K (hless H (fp (.v i))) d v := by
  have tk : TK H (hless H (fp (.v i))) := fun a o q s => by
    rw [hless_at]
    · exact q
    · intro z
      obtain ⟨u, e1, n⟩ := h.dom _ a z
      rw [q] at e1
      cases e1
      exact n s
  have ht : (v :: tv).reverse[ts.length]? = some v := by
    have := h.tlen
    rw [← show tv.length = ts.length by simpa using this]
    exact rev_top
  have z := h.tmp ts.length r rev_top
  rw [ht] at z
  rcases e with rfl | rfl | ⟨o', n, rfl⟩
  · obtain ⟨w, e1, e2⟩ := z
    cases e1
    refine (e2.frame tk fun a ha => hless_at fun z => ?_).rep
    have := h.disj _ _ a ha z
    cases this
  · obtain ⟨w, e1, e2⟩ := z
    cases e1
    refine e2.mono fun a o q => ?_
    rw [hless_at]
    · exact h.base a o q
    · intro z
      rw [h.out _ a z] at q
      cases q
  · obtain ⟨_, w, e1, e2⟩ := z
    cases e1
    refine e2.mono fun a o q => ?_
    unfold restr at q
    split at q
    · rename_i c
      rw [hless_at]
      · exact q
      · intro z
        rcases c with (c | c) | ⟨u, c1, c2⟩
        · exact n (h.disj _ _ a c z)
        · rw [h.out _ a z] at c
          cases c
        · obtain ⟨u', e1, n'⟩ := h.dom _ a z
          rw [c1] at e1
          cases e1
          exact n' c2
    · cases q
theorem HeldF.repsN : ∀ {rs : List Slot} {vs : List V} {ds : List D} {fp : Own → List Addr}, vs.length = rs.length → HeldF K m B H fp σ ss (vs ++ tv) (rs ++ ts) → isNs (.v i) rs ds → Low m ts.length → RepRs K (hless H (fp (.v i))) ds vs
  | [], [], [], _, _, _, _, _ => by unfold RepRs; rfl
  | r :: rs, v :: vs, d :: ds, fp, e, h, q, hm => by
    unfold RepRs
    refine ⟨v, vs, rfl, HeldF.topN h q.1, ?_⟩
    exact HeldF.repsN (rs := rs) (vs := vs) (ds := ds) (by simpa using e) (HeldF.pop h (hm.app _)) q.2 hm
  | [], _ :: _, _, _, e, _, _, _ => nomatch e
  | _ :: _, [], _, _, e, _, _, _ => nomatch e
  | _ :: _, _ :: _, [], _, _, _, q, _ => q.elim
  | [], [], _ :: _, _, _, _, q, _ => q.elim
theorem HeldF.lend (h : HeldF K m B H fp σ ss tv ts) {x : V} {d0 : D} (hx : σ[i]? = some (some x)) (hs : ss[i]? = some (.own d0)) (r : RepRs K (hless H (fp (.v i))) ds vs) :
    Held K (fun k => k < 0) (hless H (fp (.v i))) H ((x :: vs).map some) (.own d0 :: ds.map Slot.par) [] [] := by
  refine ⟨fun o => if o = .v 0 then fp (.v i) else [], hless_ex, by simp [r.length], rfl, Low.self, fun j s e => ?_, (fun k s e => by simp at e), fun o o' a q1 q2 => ?_, fun o => ?_, fun o a q => ?_, fun o a q => ?_⟩
  · cases j with
    | zero =>
      cases e
      obtain ⟨w, e1, e2⟩ := h.var i _ hs
      rw [hx] at e1
      have e3 : x = w := Option.some.inj e1
      subst e3
      refine ⟨x, rfl, ?_⟩
      show RepO K H d0 x (if Own.v 0 = Own.v 0 then fp (.v i) else [])
      rw [if_pos rfl]
      exact e2
    | succ j =>
      rw [List.getElem?_cons_succ, List.getElem?_map] at e
      cases e1 : ds[j]? with
      | none => rw [e1] at e; cases e
      | some d =>
        rw [e1] at e
        have e2 : Slot.par d = s := Option.some.inj e
        subst e2
        obtain ⟨w, e3, e4⟩ := r.get e1
        refine ⟨w, ?_, e4⟩
        rw [List.map_cons, List.getElem?_cons_succ, List.getElem?_map, e3]
        rfl
  · revert q1 q2
    show a ∈ (if o = Own.v 0 then fp (.v i) else []) → a ∈ (if o' = Own.v 0 then fp (.v i) else []) → o = o'
    by_cases h1 : o = .v 0
    · by_cases h2 : o' = .v 0
      · intro _ _; rw [h1, h2]
      · rw [if_neg h2]; exact fun _ z => nomatch z
    · rw [if_neg h1]; exact fun z => nomatch z
  · show (if o = Own.v 0 then fp (.v i) else []).Nodup
    split
    · exact h.nod _
    · exact List.nodup_nil
  · revert q
    show a ∈ (if o = Own.v 0 then fp (.v i) else []) → _
    split
    · exact hless_in
    · exact fun z => nomatch z
  · revert q
    show a ∈ (if o = Own.v 0 then fp (.v i) else []) → _
    split
    · exact h.dom _ a
    · exact fun z => nomatch z
theorem HeldF.lent (h : HeldF K m B H fp σ ss tv ts) {x : V} {d0 d' : D} (hx : σ[i]? = some (some x)) (hs : ss[i]? = some (.own d0)) (ht : noView (.v i) ts = true)
    (g : Held K (fun k => k < 0) (hless H (fp (.v i))) H' ((x :: vs).map some) (.own d' :: rs) [v] [.own d]) : Held K m B H' σ ((ss.map (kill (.v i))).set i (.own d')) (v :: tv) (.own d :: ts) := by
  obtain ⟨fc, g⟩ := g
  have nd : ∀ o a, a ∈ fp o → o ≠ .v i → a ∉ fp (.v i) := fun o a q n z => n (h.disj _ _ a q z)
  have old : ∀ a o, a ∉ fp (.v i) → H a = some o → H' a = some o := fun a o n e => g.base a o (by rw [hless_at n]; exact e)
  have fr : ∀ o a, a ∈ fc o → a ∈ fp (.v i) ∨ ((∀ o, a ∉ fp o) ∧ B a = none) := fun o a q => by
    by_cases z : a ∈ fp (.v i)
    · exact .inl z
    · have e := g.out o a q
      rw [hless_at z] at e
      refine .inr ⟨fun o' q' => ?_, ?_⟩
      · obtain ⟨u, e1, _⟩ := h.dom o' a q'
        rw [e] at e1
        cases e1
      · cases eB : B a with
        | none => rfl
        | some u =>
          have := h.base a u eB
          rw [e] at this
          cases this
  have tk : TK H H' := fun a o e s => old a o (fun z => by
    obtain ⟨u, e1, n⟩ := h.dom _ a z
    rw [e] at e1
    cases e1
    exact n s) e
  obtain ⟨w, e1, r1⟩ := g.var 0 _ rfl
  have e2 : x = w := Option.some.inj e1
  subst e2
  obtain ⟨w, e3, r2⟩ := g.tmp 0 _ rfl
  have e4 : v = w := Option.some.inj e3
  subst e4
  have hi : i < ss.length := (List.getElem?_eq_some_iff.mp hs).1
  have h1 := h.change (d' := d') (F' := fc (.v 0)) (by rw [hx]; rfl) hi tk old r1 (g.nod _) (fr _) ht
  refine ⟨_, h1.push r2 (g.nod _) (fun a ha o _ => ?_) fun a ha => ?_⟩
  · by_cases h2 : o = .v i
    · subst h2
      rw [fupd_same]
      intro z
      have := g.disj _ _ a ha z
      cases this
    · rw [fupd_ne h2]
      intro z
      rcases fr _ a ha with q | q
      · exact h2 (h.disj _ _ a z q)
      · exact q.1 o z
  · rcases fr _ a ha with q | q
    · exact h.out _ a q
    · exact q.2
end
section
variable {X : Cx} {fx : List Nat} {ss ts : List Slot} {Φ : List Slot → Slot → Prop} {e : Expr} {es : List Expr} {pos p : Pos} {x : Str}
variable {CX : CXT} {k : Nat} {f : Addr} {fd : FuncData} {ps : List Str} {EX : XK} {F : D → List D → (D → D → Prop) → Prop}
theorem ev_callI {dvs : List V} {dfl : List Value} {dds : List D} (i : Nat) {y : Str} {py : Pos} {d00 : D} (G : FnOk X.prog X.w X.K X.mg X.base CX k f fd ps (spI X.K F)) (hr : Room k X.A) (hg : Gl X x) (hm : X.mg x = some (.ref f)) (hk : PySem.W.keepIn X.K (.ref f) = true) (hb : Binds X.K fd ps dfl) (hd : Vals dvs dfl) (hdd : ∀ H, RepRs X.K H dds dvs) (hx : Passes CX X EX)
    (h : AV X es ss ts fun s rs => ∃ d0 ds, s[i]? = some (.own d0) ∧ noView (.v i) ts = true ∧ isNs (.v i) rs ds ∧ F d0 (ds ++ dds) fun d' d => Φ ((s.map (kill (.v i))).set i (.own d')) (.own d))
    (h0 : ss[i]? = some (.own d00) := by rfl) (hN : X.N[i]? = some y := by rfl) (hv : Vis X.env.scope y := by first | exact Or.inl rfl | exact Or.inr (Or.inl rfl) | exact Or.inr (Or.inr rfl)) (hd0 : (y == ("__debug__" : Str)) = false := by decide) (hcd : (y == ("__classdict__" : Str)) = false := by decide)
    (hdb : (x == ("__debug__" : Str)) = false := by decide) (he : starEach (.Name y py :: es) X.env = (false, eval (.Name y py) X.env) :: starEach es X.env := by rfl) (hpl : (backTo pos (starEach es X.env)).any (·.1) = false := by rfl) : EV X (.Call (.Name x p) (.Name y py :: es) [] pos) ss ts Φ := fun m B σ tv H Q hm' hh kk => by
  refine toE (pe_call G hr hg hm hk hb hd hx (pa_cons (pe_var hN hv hd0 hcd) pa_w he) hdb he hpl) ?_
  obtain ⟨fp, hf⟩ := id hh
  obtain ⟨x0, e1, _⟩ := hf.var i _ h0
  have ex : σ[i]? = some (some x0) := by
    cases e : σ[i]? with
    | none => rw [e] at e1; cases e1
    | some y => rw [e] at e1; have z : y = some x0 := e1; rw [z]
  refine ⟨x0, ex, ?_⟩
  refine h m B σ tv H _ hm' hh fun s rs vs H1 ⟨d0, ds, hs, hv1, ia, hF⟩ l1 l2 ⟨fp1, h1⟩ => ?_
  have r1 := (HeldF.repsN (by simpa using l1) h1 ia.rev hm').rev
  rw [List.reverse_reverse, List.reverse_reverse] at r1
  have l3 : vs.reverse.length = rs.reverse.length := by simpa using l1
  have hpop := HeldF.popN l3 h1 hm'
  obtain ⟨fp3, h3, e3⟩ : ∃ fp3, HeldF X.K m B H1 fp3 σ s tv ts ∧ fp3 (.v i) = fp1 (.v i) := ⟨_, hpop, rfl⟩
  refine ⟨_, _, HeldF.lend h3 ex hs (ds := ds ++ dds) (by rw [e3]; exact r1.append (hdd _)), d0, ds ++ dds, _, rfl, hF, fun d' d q r H' g => ?_⟩
  refine kk _ (.own d) r H' q ?_
  exact HeldF.lent h3 ex hs hv1 g
end
end DL
namespace DL
open PySem PySem.Spec PyProof.Rows L2
structure DefI (P : Program) (w : World) (K : PySem.W.Frag) (mg : Str → Option Value) (base : Heap) (CX : CXT) (k : Nat) (x : Str) (ps : List Str) (f : Addr) (fd : FuncData) (dds : List D) (F : D → List D → (D → D → Prop) → Prop) : Prop where
  ok : FnOk P w K mg base CX k f fd ps (spI K F)
  nm : mg x = some (.ref f)
  kp : PySem.W.keepIn K (.ref f) = true
  bd : ∃ (dvs : List V) (dfl : List Value), Binds K fd ps dfl ∧ Vals dvs dfl ∧ ∀ H, RepRs K H dds dvs
section
variable {X : Cx} {fx : List Nat} {ss ts rs : List Slot} {Φ : List Slot → Slot → Prop} {e a b c tg it o : Expr} {es : List Expr} {pos p p2 apos px py : Pos} {x y : Str} {k j : Nat} {ps : List Str} {f : Addr} {fd : FuncData} {dds : List D} {E : DE} {Θ : List Slot → Bool → Prop} {d : D} {N : List Slot → Prop}
theorem eCallI {FI : D → List D → (D → D → Prop) → Prop} (C : DefI X.prog X.w X.K X.mg X.base CX0 k x ps f fd dds FI) (i : Nat) {d00 : D} (hr : Room j X.A) (hj : k ≤ j)
    (h : AV X es ss ts fun s rs => ∃ d0 ds, s[i]? = some (.own d0) ∧ noView (.v i) ts = true ∧ isNs (.v i) rs ds ∧ FI d0 (ds ++ dds) fun d' d => Φ ((s.map (kill (.v i))).set i (.own d')) (.own d))
    (h0 : ss[i]? = some (.own d00) := by rfl) (hN : X.N[i]? = some y := by rfl) (hg : Gl X x := by rfl) (hv : Vis X.env.scope y := by first | exact Or.inl rfl | exact Or.inr (Or.inl rfl) | exact Or.inr (Or.inr rfl)) (hd0 : (y == ("__debug__" : Str)) = false := by decide) (hcd : (y == ("__classdict__" : Str)) = false := by decide)
    (hdb : (x == ("__debug__" : Str)) = false := by decide) (he : starEach (.Name y py :: es) X.env = (false, eval (.Name y py) X.env) :: starEach es X.env := by rfl) (hpl : (backTo pos (starEach es X.env)).any (·.1) = false := by rfl) : EV X (.Call (.Name x p) (.Name y py :: es) [] pos) ss ts Φ := by
  obtain ⟨dvs, dfl, b1, b2, b3⟩ := C.bd
  exact ev_callI i C.ok (hr.mono hj) hg C.nm C.kp b1 b2 b3 pass0 h h0 hN hv hd0 hcd hdb he hpl
theorem HeldF.pushs {K : PySem.W.Frag} {m : Nat → Prop} {B H : Hp} {σ : List (Option V)} {tv : List V} : ∀ {ds : List D} {vs : List V} {F : List Addr} {fp : Own → List Addr}, HeldF K m B H fp σ ss tv ts → RepOs K H ds vs F → F.Nodup → (∀ a ∈ F, ∀ o, a ∉ fp o) → (∀ a ∈ F, B a = none) →
    ∃ fp', HeldF K m B H fp' σ ss (vs ++ tv) (ds.map Slot.own ++ ts) ∧ ∀ o a, a ∈ fp' o → a ∈ fp o ∨ a ∈ F
  | [], vs, F, fp, h, r, _, _, _ => by
    unfold RepOs at r
    obtain ⟨rfl, rfl⟩ := r
    exact ⟨fp, h, fun _ _ z => .inl z⟩
  | d :: ds, vs, F, fp, h, r, nd, dj, ot => by
    unfold RepOs at r
    obtain ⟨w, ws, F1, F2, rfl, rfl, r1, r2⟩ := r
    obtain ⟨n1, n2, n3⟩ := List.nodup_append.mp nd
    obtain ⟨fp', h', k⟩ := HeldF.pushs (ds := ds) h r2 n2 (fun a ha => dj a (List.mem_append_right _ ha)) (fun a ha => ot a (List.mem_append_right _ ha))
    refine ⟨_, h'.push r1 n1 (fun a ha o _ z => ?_) (fun a ha => ot a (List.mem_append_left _ ha)), fun o a => ?_⟩
    · rcases k o a z with q | q
      · exact dj a (List.mem_append_left _ ha) o q
      · exact n3 a ha a q rfl
    · show a ∈ (if o = Own.t (ds.map Slot.own ++ ts).length then F1 else fp' o) → _
      split
      · exact fun z => .inr (List.mem_append_left _ z)
      · intro z
        rcases k o a z with q | q
        · exact .inl q
        · exact .inr (List.mem_append_right _ q)
theorem Held.scatter {K : PySem.W.Frag} {m : Nat → Prop} {B H : Hp} {σ : List (Option V)} {tv : List V} {v : V} {ds : List D} (h : Held K m B H σ ss (v :: tv) (.own (.tup ds) :: ts)) (hm : Low m ts.length) :
    ∃ a vs, v = .ref a ∧ SqT K H a vs ∧ vs.length = ds.length ∧ Held K m B H σ ss (vs ++ tv) (ds.map Slot.own ++ ts) := by
  obtain ⟨fp, h⟩ := h
  obtain ⟨fp1, F, h1, _, r, nd, dj, ot, _⟩ := h.take hm
  unfold RepO at r
  obtain ⟨a, vs, rfl, sq, r⟩ := r
  obtain ⟨fp', h', _⟩ := h1.pushs r nd dj ot
  exact ⟨a, vs, rfl, sq, r.reps.length, _, h'⟩
def wGs (X : Cx) (tgs : List Expr) : List V → L2.St → Hp → (L2.St → Hp → Prop) → Prop := fun vs σ H Q => ∃ t, PGs X tgs t ∧ t vs σ H Q
theorem pgs_w {tgs : List Expr} : PGs X tgs (wGs X tgs) := ⟨fun pins s σ H vs us Q I r ⟨t, p, q⟩ => p.run pins s σ H vs us Q I r q⟩
def GsV (X : Cx) (tgs : List Expr) (as : List Nat) (rs ss ts : List Slot) (N : List Slot → Prop) : Prop :=
  ∀ m B σ tv H xs Q, Low m ts.length → xs.length = rs.length → Held X.K m B H σ ss (xs ++ tv) (rs ++ ts) → (∀ ss' σ' H', N ss' → Held X.K m B H' σ' ss' tv ts → (∀ i, i ∉ as → σ'[i]? = σ[i]?) ∧ σ'.length = σ.length → Q σ' H') → wGs X tgs xs σ H Q
theorem gs_nil {as : List Nat} (q : N ss) : GsV X [] as [] ss ts N := fun m B σ tv H xs Q hm hl hh k => by
  cases xs with
  | cons _ _ => cases hl
  | nil => exact ⟨_, pgs_nil, rfl, k ss σ H q hh ⟨fun _ _ => rfl, rfl⟩⟩
theorem gs_cons {as : List Nat} {r : Slot} (h : GV X e as (.one r) ss (rs ++ ts) fun s => GsV X es as rs s ts N) (hs : (assignEach (e :: es) X.env).map (·.2) = assign e X.env :: (assignEach es X.env).map (·.2) := by rfl) : GsV X (e :: es) as (r :: rs) ss ts N := fun m B σ tv H xs Q hm hl hh k => by
  cases xs with
  | nil => cases hl
  | cons x xs =>
    refine ⟨_, pgs_cons pg_w pgs_w hs, x, xs, rfl, ?_⟩
    refine h m B σ (xs ++ tv) H x _ (hm.app _) hh fun s σ1 H1 q h1 ⟨z1, z2⟩ => ?_
    exact q m B σ1 tv H1 xs Q hm (by simpa using hl) h1 fun s2 σ2 H2 q2 h2 ⟨z3, z4⟩ => k s2 σ2 H2 q2 h2 ⟨fun i hi => (z3 i hi).trans (z1 i hi), z4.trans z2⟩
theorem gv_tup {as : List Nat} {n : Nat} {ds : List D} {k : Nat} (hc : X.calm = true) (hl : ds.length = n) (h : GsV X es as (ds.map Slot.own) ss ts N)
    (hn : (assignEach es X.env).length = n := by rfl) (hst : (assignEach es X.env).findIdx? (·.1) = none := by rfl) : GV X (.Tuple es k pos) as (.one (.own (.tup ds))) ss ts N := fun m B σ tv H v Q hm hh kk => by
  obtain ⟨a, vs, rfl, sq, l, h2⟩ := Held.scatter hh hm
  refine toG (pg_tup hc pgs_w hn hst) ⟨a, vs, rfl, sq, l.trans hl, ?_⟩
  exact h m B σ tv H vs Q hm (by simpa using l) h2 kk
theorem s1_asg {as : List Nat} (h : EV X e ss ts fun s r => GV X tg as (.one r) s ts E.nx) (hfx : ∀ i, i ∈ fx → i ∉ as) (hs : swapsWithSole [tg] e pos.line X.env = pure false := by rfl) (hw : swappedStores [tg] e X.env = pure none := by rfl)
    (h1 : (assignEach [tg] X.env).map (·.2) = [assign tg X.env] := by rfl) : S1 X fx (.Assign [tg] e pos) ss ts E := fun B σ tv H D hh k => by
  refine toS (ps_asg pe_w pg_w hs hw h1) ?_
  refine h (fun k => k < ts.length) B σ tv H _ Low.self hh fun s r v H1 q h1 => ?_
  exact q (fun k => k < ts.length) B σ tv H1 v _ Low.self h1 fun s2 σ2 H2 q2 h2 ⟨z, _⟩ => k.nx s2 σ2 H2 q2 h2 fun i hi => z i (hfx i hi)
theorem RepOs.set {K : PySem.W.Frag} {H : Hp} : ∀ {ds : List D} {vs : List V} {G F : List Addr} {d : D} {w : V} (j : Nat), RepOs K H ds vs G → G.Nodup → RepO K H d w F → F.Nodup → (∀ a ∈ F, a ∉ G) → ∃ G', RepOs K H (ds.set j d) (vs.set j w) G' ∧ G'.Nodup ∧ ∀ a ∈ G', a ∈ G ∨ a ∈ F
  | [], vs, G, F, d, w, j, r, nd, _, _, _ => by
    unfold RepOs at r
    obtain ⟨rfl, rfl⟩ := r
    exact ⟨[], by unfold RepOs; exact ⟨rfl, rfl⟩, List.nodup_nil, fun _ z => nomatch z⟩
  | d0 :: ds, vs, G, F, d, w, 0, r, nd, r0, n0, dj => by
    unfold RepOs at r
    obtain ⟨w0, ws, F1, F2, rfl, rfl, r1, r2⟩ := r
    obtain ⟨n1, n2, n3⟩ := List.nodup_append.mp nd
    refine ⟨F ++ F2, ?_, List.nodup_append.mpr ⟨n0, n2, fun a ha b hb z => dj a ha (List.mem_append_right _ (z ▸ hb))⟩, fun a ha => ?_⟩
    · unfold RepOs
      exact ⟨w, ws, F, F2, rfl, rfl, r0, r2⟩
    · rcases List.mem_append.mp ha with q | q
      · exact .inr q
      · exact .inl (List.mem_append_right _ q)
  | d0 :: ds, vs, G, F, d, w, j + 1, r, nd, r0, n0, dj => by
    unfold RepOs at r
    obtain ⟨w0, ws, F1, F2, rfl, rfl, r1, r2⟩ := r
    obtain ⟨n1, n2, n3⟩ := List.nodup_append.mp nd
    obtain ⟨G', r3, n4, s⟩ := RepOs.set (ds := ds) j r2 n2 r0 n0 fun a ha z => dj a ha (List.mem_append_right _ z)
    refine ⟨F1 ++ G', ?_, List.nodup_append.mpr ⟨n1, n4, fun a ha b hb z => ?_⟩, fun a ha => ?_⟩
    · unfold RepOs
      exact ⟨w0, _, F1, G', rfl, rfl, r1, r3⟩
    · subst z
      rcases s a hb with q | q
      · exact n3 a ha a q rfl
      · exact dj a q (List.mem_append_left _ ha)
    · rcases List.mem_append.mp ha with q | q
      · exact .inl (List.mem_append_left _ q)
      · rcases s a q with q | q
        · exact .inl (List.mem_append_right _ q)
        · exact .inr q
theorem gv_store {as : List Nat} {r : Slot} (i : Nat) {l0 : List D} (h : EV X b ss (r :: ts) fun s rb => ∃ l k j d, s[i]? = some (.own (.lst l)) ∧ rb.is (.int k) ∧ ixN l.length k = some j ∧ r = .own d ∧ N ((s.map (kill (.v i))).set i (.own (.lst (l.set j d)))))
    (h0 : ss[i]? = some (.own (.lst l0)) := by rfl) (hv1 : noView (.v i) ts = true := by rfl) (hN : X.N[i]? = some x := by rfl) (hv : Vis X.env.scope x := by first | exact Or.inl rfl | exact Or.inr (Or.inl rfl) | exact Or.inr (Or.inr rfl))
    (hd : (x == ("__debug__" : Str)) = false := by decide) (hcd : (x == ("__classdict__" : Str)) = false := by decide)
    (ha : ∀ v, assign (.Subscript (.Name x px) b pos) X.env v = (do
      let ov ← holding [v] (eval (.Name x px) X.env)
      let iv ← holding [v, ov] (eval b X.env)
      standAt pos
      holding [v, ov, iv] (setItem ov iv v)
      release [v, ov, iv] []) := by intro _; rfl) : GV X (.Subscript (.Name x px) b pos) as (.one r) ss ts N := fun m B σ tv H v Q hm hh kk => by
  refine toG (pg_sub (pe_var hN hv hd hcd) pe_w set_list ha) ?_
  obtain ⟨fp, hf⟩ := id hh
  obtain ⟨A, vs, G, x1, a1, _, _⟩ := hf.lst h0
  refine ⟨.ref A, x1, ?_⟩
  refine h m B σ (v :: tv) H _ hm.up hh fun s rb y H1 ⟨l, k, j, d, hi, eb, ej, er, q⟩ h1 => ?_
  subst er
  have yb := h1.top eb
  rw [rep_int] at yb
  obtain ⟨fp1, h1⟩ := h1.pop hm.up
  obtain ⟨fp2, F2, h2, s2, r2, n2, o2, b2, _⟩ := h1.take hm
  obtain ⟨A', vs', G', x2, a2, f2, g2⟩ := h2.lst hi
  rw [x1] at x2
  cases x2
  have lv := g2.reps.length
  have nd := h2.nod (.v i)
  rw [f2] at nd
  have nd2 := (List.nodup_cons.mp nd).2
  obtain ⟨G3, r3, n3, s3⟩ := RepOs.set j g2 nd2 r2 n2 fun a ha z => o2 a ha (.v i) (by rw [f2]; exact List.mem_cons_of_mem _ z)
  refine ⟨A, vs', k, j, rfl, yb, a2, by rw [lv]; exact ej, ?_⟩
  have h3 := h2.relist (getElem?_lt hi) x1 a2 f2 r3 n3 (fun b hb => (s3 b hb).imp id fun z => ⟨o2 b z, b2 b z⟩) hv1
  exact kk _ σ _ q h3 ⟨fun _ _ => rfl, rfl⟩
theorem sPar (i j : Nat) {kt k2 : Nat} {pt pt2 : Pos} (hN : X.N.Nodup)
    (h : AV X [a, b] ss ts fun s rs => ∃ r1 r2, rs = [r1, r2] ∧ s.length = ss.length ∧ noView (.v i) (r1 :: ts) = true ∧ noView (.v j) (r2 :: r1 :: ts) = true ∧ E.nx ((((s.map (kill (.v j))).set j r2).map (kill (.v i))).set i r1))
    (hc : X.calm = true := by rfl) (hi : X.N[i]? = some x := by rfl) (hj : X.N[j]? = some y := by rfl) (hij : i ≠ j := by decide) (hfi : i ∉ fx := by decide) (hfj : j ∉ fx := by decide) (hil : (ss[i]?).isSome = true := by rfl) (hjl : (ss[j]?).isSome = true := by rfl)
    (hx : X.env.scope.names.lookup x = some .local := by rfl) (hy : X.env.scope.names.lookup y = some .local := by rfl)
    (hw : swappedStores [.Tuple [.Name x px, .Name y py] kt pt] (.Tuple [a, b] k2 pt2) X.env = pure (some [x, y]) := by rfl)
    (hs : swapsWithSole [.Tuple [.Name x px, .Name y py] kt pt] (.Tuple [a, b] k2 pt2) pos.line X.env = pure false := by rfl) :
    S1 X fx (.Assign [.Tuple [.Name x px, .Name y py] kt pt] (.Tuple [a, b] k2 pt2) pos) ss ts E := fun B σ tv H D hh k => by
  refine toS (ps_par hc hN hi hj hij hx hy pa_w hw hs) ?_
  refine h (fun k => k < ts.length) B σ tv H _ Low.self hh fun s rs vs H1 ⟨r1, r2, e, sl, n1, n2, q⟩ l1 l2 h1 => ?_
  subst e
  match vs, l1 with
  | [v1, v2], _ =>
    refine ⟨v1, v2, rfl, ?_⟩
    have a1 := (List.mem_cons_self : r2 ∈ r2 :: r1 :: ts)
    have h2 := Held.assign (σ := σ) (tv := v1 :: tv) (ts := r1 :: ts) h1 Low.self.up (by rw [sl]; exact isSome_lt hjl) (by
      cases r2 <;> first | exact n2 | (have z := n2; unfold noView at z; rw [Bool.and_eq_true] at z; exact z.2)) (fun d z => noView_mem n2 _ a1 d z)
    have h3 := Held.assign h2 Low.self (by simp only [List.length_set, List.length_map]; rw [sl]; exact isSome_lt hil) (by
      cases r1 <;> first | exact n1 | (have z := n1; unfold noView at z; rw [Bool.and_eq_true] at z; exact z.2)) (fun d z => noView_mem n1 _ List.mem_cons_self d z)
    have e : (σ.set i (some v1)).set j (some v2) = (σ.set j (some v2)).set i (some v1) := List.set_comm _ _ hij
    rw [e]
    refine k.nx _ _ H1 q h3 fun l hl => ?_
    rw [List.getElem?_set_ne (fun z => by subst z; exact hfi hl), List.getElem?_set_ne (fun z => by subst z; exact hfj hl)]
def GloD (K : PySem.W.Frag) (mg : Str → Option Value) (x : Str) (d : D) : Prop := ∃ u v, mg x = some u ∧ RelV v u ∧ ∀ H, RepO K H d v []
theorem ev_glo (hg : Gl X x) (hm : GloD X.K X.mg x d) (q : Φ ss (.own d)) (hd : (x == ("__debug__" : Str)) = false := by decide) : EV X (.Name x pos) ss ts Φ := by
  obtain ⟨u, v, h1, h2, h3⟩ := hm
  exact ev_const (pe_glob hg h1 h2 hd) h3 q
theorem ev_abs (hg : Gl X "abs") (hm : X.mg "abs" = none) (h : EV X e ss ts fun s r => ∃ i, r.is (.int i) ∧ Φ s (.own (.int (if i < 0 then -i else i))))
    (he : starEach [e] X.env = (false, eval e X.env) :: starEach [] X.env := by rfl) : EV X (.Call (.Name "abs" p) [e] [] pos) ss ts Φ :=
  ev_callB call_abs hg hm (by decide +kernel) (av_cons (h.imp fun s r ⟨i, e1, q⟩ => av_nil ⟨[.int i], fun d => d = .int (if i < 0 then -i else i), ⟨e1, trivial⟩, fun H vs Q rr k => by
    obtain ⟨v, rfl, hv⟩ := reps1 rr
    rw [rep_int] at hv
    exact ⟨i, by rw [hv], k _ _ H rfl (.flat o_int)⟩, fun d hd => by rw [hd]; exact q⟩) he) (he := he)
theorem ev_intB (hg : Gl X "int") (hm : X.mg "int" = none) (h : EV X e ss ts fun s r => ∃ i, r.is (.bl i) ∧ Φ s (.own (.int (if i then 1 else 0))))
    (he : starEach [e] X.env = (false, eval e X.env) :: starEach [] X.env := by rfl) : EV X (.Call (.Name "int" p) [e] [] pos) ss ts Φ :=
  ev_callTy call_int1 hg hm (by decide +kernel) (av_cons (h.imp fun s r ⟨i, e1, q⟩ => av_nil ⟨[.bl i], fun d => d = .int (if i then 1 else 0), ⟨e1, trivial⟩, fun H vs Q rr k => by
    obtain ⟨v, rfl, hv⟩ := reps1 rr
    rw [rep_bl] at hv
    exact .inr ⟨i, by rw [hv], k _ _ H rfl (.flat o_int)⟩, fun d hd => by rw [hd]; exact q⟩) he) (he := he)
theorem ev_listOf (hg : Gl X "list") (hm : X.mg "list" = none) (h : EV X e ss ts fun s r => ∃ d l, r.is d ∧ d.seqL = some l ∧ D.flats l = true ∧ Φ s (.own (.lst l)))
    (he : starEach [e] X.env = (false, eval e X.env) :: starEach [] X.env := by rfl) : EV X (.Call (.Name "list" p) [e] [] pos) ss ts Φ :=
  ev_callTy call_list_of hg hm (by decide +kernel) (av_cons (h.imp fun s r ⟨d, l, e1, e2, fl, q⟩ => av_nil ⟨[d], fun d => d = .lst l, ⟨e1, trivial⟩, fun H vs Q rr k => by
    obtain ⟨v, rfl, hv⟩ := reps1 rr
    obtain ⟨a, ws, rfl, h1, h2⟩ := D.seq_rep hv e2
    exact ⟨a, ws, rfl, h1, fun l hl => k _ _ _ rfl (.lstF hl (h2.flatO fl))⟩, fun d hd => by rw [hd]; exact q⟩) he) (he := he)
theorem CDivP.of {i j : Int} (h : 0 < j) (h2 : j.natAbs.log2 < 9000) : CDivP i j := ⟨h, PyProof.noPylong_of_log2 h2⟩
theorem New.tup {K : PySem.W.Frag} {H : Hp} {p : Addr} {vs : List V} {ds : List D} (hp : H p = none) (h : ∀ H, RepOs K H ds vs []) : New K H (upd H p (.tup vs)) (.ref p) (.tup ds) :=
  ⟨Ex.new hp, [], by unfold RepO; exact ⟨p, vs, rfl, .inl (.inl upd_same), h _⟩, List.nodup_nil, fun a ha => nomatch ha⟩
theorem D.scs_rep {K : PySem.W.Frag} {H : Hp} : ∀ {l : List D} {vs xs : List V}, RepRs K H l vs → l.mapM D.sc = some xs → vs = xs
  | [], vs, xs, h, e => by
    unfold RepRs at h
    cases e
    exact h
  | d :: l, vs, xs, h, e => by
    unfold RepRs at h
    obtain ⟨w, ws, rfl, h1, h2⟩ := h
    rw [List.mapM_cons] at e
    obtain ⟨x, e1, e⟩ := Option.bind_eq_some_iff.mp e
    obtain ⟨ys, e2, e⟩ := Option.bind_eq_some_iff.mp e
    cases e
    rw [D.sc_rep h1 e1, D.scs_rep h2 e2]
theorem D.sc_flat {d : D} {x : V} (e : d.sc = some x) : flatV x = true := by
  cases d <;> first | (cases e; rfl) | cases e
theorem D.scs_flat : ∀ {l : List D} {xs : List V}, l.mapM D.sc = some xs → xs.all flatV = true
  | [], xs, e => by cases e; rfl
  | d :: l, xs, e => by
    rw [List.mapM_cons] at e
    obtain ⟨x, e1, e⟩ := Option.bind_eq_some_iff.mp e
    obtain ⟨ys, e2, e⟩ := Option.bind_eq_some_iff.mp e
    cases e
    rw [List.all_cons, D.sc_flat e1, D.scs_flat e2]
    rfl
theorem tv_in (h : EV X a ss ts fun s1 r1 => EV X b s1 (r1 :: ts) fun s2 r2 => ∃ d1 d2 x l xs, r1.is d1 ∧ r2.is d2 ∧ d1.sc = some x ∧ d2.seqL = some l ∧ l.mapM D.sc = some xs ∧ Θ s2 (inV x xs)) (hb : behindInMarks .In b = false := by rfl) : TV X (.Compare a [.In] [b] pos) ss ts Θ :=
  tv_cmp2 op_in_seq hb (h.imp fun s1 r1 h1 => h1.imp fun s2 r2 ⟨d1, d2, x, l, xs, e1, e2, c1, c2, c3, q⟩ => ⟨_, _, _, e1, e2, fun H u w rx ry Q q => by
    obtain ⟨A, vs, rfl, sq, rr⟩ := D.seq_rep ry c2
    rw [D.sc_rep rx c1]
    have e := D.scs_rep rr c3
    subst e
    exact ⟨A, vs, rfl, sq, D.sc_flat c1, D.scs_flat c3, q⟩, q⟩)
theorem tv_notin (h : EV X a ss ts fun s1 r1 => EV X b s1 (r1 :: ts) fun s2 r2 => ∃ d1 d2 x l xs, r1.is d1 ∧ r2.is d2 ∧ d1.sc = some x ∧ d2.seqL = some l ∧ l.mapM D.sc = some xs ∧ Θ s2 (!inV x xs)) (hb : behindInMarks .NotIn b = false := by rfl) : TV X (.Compare a [.NotIn] [b] pos) ss ts Θ :=
  tv_cmp2 op_notIn_seq hb (h.imp fun s1 r1 h1 => h1.imp fun s2 r2 ⟨d1, d2, x, l, xs, e1, e2, c1, c2, c3, q⟩ => ⟨_, _, _, e1, e2, fun H u w rx ry Q q => by
    obtain ⟨A, vs, rfl, sq, rr⟩ := D.seq_rep ry c2
    rw [D.sc_rep rx c1]
    have e := D.scs_rep rr c3
    subst e
    exact ⟨A, vs, rfl, sq, D.sc_flat c1, D.scs_flat c3, q⟩, q⟩)
theorem s1_tryN {sts : List Stmt} {h0 : ExceptHandler} {hs : List ExceptHandler} (hx : X.nox = X) (h : SV X fx sts ss ts E) : S1 X fx (.Try sts (h0 :: hs) [] [] pos) ss ts E := fun B σ tv H D hh k => by
  refine toS (ps_try_thru0 (t := wSs X sts) (by rw [hx]; exact pss_w)) ?_
  exact h B σ tv H D hh k
end
end DL
namespace DL
open PySem PySem.Spec PyProof.Rows L2
@[reducible] def slotAt : List Slot → Nat → Slot
  | [], _ => .no
  | s :: _, 0 => s
  | _ :: r, i + 1 => slotAt r i
@[reducible] def D.fl0 : D → Bool
  | .non => true
  | .bl _ => true
  | .int _ => true
  | .str _ => true
  | .raw _ => true
  | _ => false
@[reducible] def D.fls : List D → Bool
  | [] => true
  | d :: ds => match d.fl0 with
    | true => D.fls ds
    | false => false
@[reducible] def D.fl : D → Bool
  | .tup l => D.fls l
  | .exc _ _ l => D.fls l
  | .non => true
  | .bl _ => true
  | .int _ => true
  | .str _ => true
  | .raw _ => true
  | _ => false
theorem D.fl0_flat {d : D} (h : d.fl0 = true) : d.flat = true := by cases d <;> first | rfl | cases h
theorem D.fls_flat : ∀ {l : List D}, D.fls l = true → D.flats l = true
  | [], _ => by unfold D.flats; rfl
  | d :: l, h => by
    unfold D.fls at h
    unfold D.flats
    cases e : d.fl0 with
    | false => rw [e] at h; cases h
    | true =>
      rw [e] at h
      rw [D.fl0_flat e, D.fls_flat h]
      rfl
theorem D.fl_flat {d : D} (h : d.fl = true) : d.flat = true := by
  cases d with
  | tup l => unfold D.flat; exact D.fls_flat h
  | exc _ _ l => unfold D.flat; exact D.fls_flat h
  | _ => first | rfl | cases h
@[reducible] def nmK (i : Nat) (ss : List Slot) (Φ : List Slot → Slot → Prop) : Slot → Prop
  | .no => False
  | .own d => match d.fl with
    | true => Φ ss (.own d)
    | false => Φ ss (.view (.v i) d)
  | .par d => match d.fl with
    | true => Φ ss (.own d)
    | false => Φ ss (.par d)
  | .view o d => match d.fl with
    | true => Φ ss (.own d)
    | false => Φ ss (.view o d)
theorem slotAt_some : ∀ {ss : List Slot} {i : Nat} {s : Slot}, slotAt ss i = s → s ≠ .no → ss[i]? = some s
  | [], i, s, h, n => by
    unfold slotAt at h
    exact absurd h.symm n
  | t :: ss, 0, s, h, n => by
    unfold slotAt at h
    rw [← h]
    rfl
  | t :: ss, i + 1, s, h, n => by
    unfold slotAt at h
    rw [List.getElem?_cons_succ]
    exact slotAt_some h n
section
variable {X : Cx} {fx : List Nat} {ss ts rs : List Slot} {Φ : List Slot → Slot → Prop} {e a b c tg it o : Expr} {es : List Expr} {pos p p2 apos px py : Pos} {x y : Str} {E : DE} {Θ : List Slot → Bool → Prop} {d : D}
theorem ev_varVF {i : Nat} {ow : Own} (hN : X.N[i]? = some x) (hv : Vis X.env.scope x) (hs : ss[i]? = some (.view ow d)) (hf : d.flat = true) (q : Φ ss (.own d)) (hd : (x == ("__debug__" : Str)) = false := by decide) (hcd : (x == ("__classdict__" : Str)) = false := by decide) :
    EV X (.Name x pos) ss ts Φ := fun m B σ tv H Q hm h k => by
  refine ev_varV (Φ := fun s r => s = ss ∧ r = .view ow d) hN hv hs ⟨rfl, rfl⟩ hd hcd m B σ tv H Q hm h fun ss' r v H' ⟨e1, e2⟩ hh => ?_
  subst e1 e2
  exact k _ _ v H' q (hh.flat hm Slot.is_view hf)
theorem nm (i : Nat) (q : nmK i ss Φ (slotAt ss i)) (hN : X.N[i]? = some x := by rfl) (hv : Vis X.env.scope x := by first | exact Or.inl rfl | exact Or.inr (Or.inl rfl) | exact Or.inr (Or.inr rfl)) (hd : (x == ("__debug__" : Str)) = false := by decide) (hcd : (x == ("__classdict__" : Str)) = false := by decide) :
    EV X (.Name x pos) ss ts Φ := by
  generalize hs : slotAt ss i = s at q
  cases s with
  | no => exact q.elim
  | own d =>
    have h := slotAt_some hs (fun z => nomatch z)
    unfold nmK at q
    simp only at q
    cases e : d.fl with
    | true => rw [e] at q; exact ev_var hN hv h (D.fl_flat e) q hd hcd
    | false => rw [e] at q; exact ev_varL hN hv h q hd hcd
  | par d =>
    have h := slotAt_some hs (fun z => nomatch z)
    unfold nmK at q
    simp only at q
    cases e : d.fl with
    | true => rw [e] at q; exact ev_varPF hN hv h (D.fl_flat e) q hd hcd
    | false => rw [e] at q; exact ev_varP hN hv h q hd hcd
  | view o d =>
    have h := slotAt_some hs (fun z => nomatch z)
    unfold nmK at q
    simp only at q
    cases e : d.fl with
    | true => rw [e] at q; exact ev_varVF hN hv h (D.fl_flat e) q hd hcd
    | false => rw [e] at q; exact ev_varV hN hv h q hd hcd
@[reducible] def i2K (k : Int → Int → Prop) : Slot → Slot → Prop
  | .own (.int i), .own (.int j) => k i j
  | _, _ => False
theorem i2K_of {k : Int → Int → Prop} {r s : Slot} (h : i2K k r s) : ∃ i j, r = .own (.int i) ∧ s = .own (.int j) ∧ k i j := by
  unfold i2K at h
  split at h
  · exact ⟨_, _, rfl, rfl, h⟩
  · exact h.elim
theorem eSub (h : EV X a ss ts fun s1 r1 => EV X b s1 (r1 :: ts) fun s r2 => i2K (fun i j => Φ s (.own (.int (i - j)))) r1 r2) : EV X (.BinOp a .Sub b pos) ss ts Φ :=
  ev_sub (h.imp fun s1 r1 h1 => h1.imp fun s r2 h2 => by
    obtain ⟨i, j, rfl, rfl, q⟩ := i2K_of h2
    exact ⟨i, j, Slot.is_own, Slot.is_own, q⟩)
theorem eMul (h : EV X a ss ts fun s1 r1 => EV X b s1 (r1 :: ts) fun s r2 => i2K (fun i j => CMulW i j ∧ Φ s (.own (.int (i * j)))) r1 r2) : EV X (.BinOp a .Mult b pos) ss ts Φ :=
  ev_mul (h.imp fun s1 r1 h1 => h1.imp fun s r2 h2 => by
    obtain ⟨i, j, rfl, rfl, q⟩ := i2K_of h2
    exact ⟨i, j, Slot.is_own, Slot.is_own, q⟩)
theorem eMod (h : EV X a ss ts fun s1 r1 => EV X b s1 (r1 :: ts) fun s r2 => i2K (fun i j => 0 < j ∧ Φ s (.own (.int (i % j)))) r1 r2) : EV X (.BinOp a .Mod b pos) ss ts Φ :=
  ev_mod (h.imp fun s1 r1 h1 => h1.imp fun s r2 h2 => by
    obtain ⟨i, j, rfl, rfl, q⟩ := i2K_of h2
    exact ⟨i, j, Slot.is_own, Slot.is_own, q⟩)
theorem eDiv (h : EV X a ss ts fun s1 r1 => EV X b s1 (r1 :: ts) fun s r2 => i2K (fun i j => CDivW i j ∧ Φ s (.own (.int (i / j)))) r1 r2) : EV X (.BinOp a .FloorDiv b pos) ss ts Φ :=
  ev_fdiv (h.imp fun s1 r1 h1 => h1.imp fun s r2 h2 => by
    obtain ⟨i, j, rfl, rfl, q⟩ := i2K_of h2
    exact ⟨i, j, Slot.is_own, Slot.is_own, q⟩)
theorem ePow (h : EV X a ss ts fun s1 r1 => EV X b s1 (r1 :: ts) fun s r2 => i2K (fun i j => CPow i j ∧ Φ s (.own (.int (i ^ j.toNat)))) r1 r2) : EV X (.BinOp a .Pow b pos) ss ts Φ :=
  ev_ii op_pow (h.imp fun s1 r1 h1 => h1.imp fun s r2 h2 => by
    obtain ⟨i, j, rfl, rfl, q⟩ := i2K_of h2
    exact ⟨i, j, Slot.is_own, Slot.is_own, q⟩)
@[reducible] def addK (s : List Slot) (Φ : List Slot → Slot → Prop) : Slot → Slot → Prop
  | .own (.int i), .own (.int j) => Φ s (.own (.int (i + j)))
  | .own (.str x), .own (.str y) => x.length + y.length ≤ 1000000 ∧ Φ s (.own (.str (x ++ y)))
  | _, _ => False
theorem eAdd (h : EV X a ss ts fun s1 r1 => EV X b s1 (r1 :: ts) fun s r2 => addK s Φ r1 r2) : EV X (.BinOp a .Add b pos) ss ts Φ :=
  ev_addG (h.imp fun s1 r1 h1 => h1.imp fun s r2 h2 => by
    unfold addK at h2
    split at h2
    · exact .inl ⟨_, _, Slot.is_own, Slot.is_own, h2⟩
    · exact .inr ⟨_, _, Slot.is_own, Slot.is_own, h2.1, h2.2⟩
    · exact h2.elim)
@[reducible] def i1K (k : Int → Prop) : Slot → Prop
  | .own (.int i) => k i
  | _ => False
theorem i1K_of {k : Int → Prop} {r : Slot} (h : i1K k r) : ∃ i, r = .own (.int i) ∧ k i := by
  unfold i1K at h
  split at h
  · exact ⟨_, rfl, h⟩
  · exact h.elim
@[reducible] def b1K (k : Bool → Prop) : Slot → Prop
  | .own (.bl i) => k i
  | _ => False
theorem b1K_of {k : Bool → Prop} {r : Slot} (h : b1K k r) : ∃ i, r = .own (.bl i) ∧ k i := by
  unfold b1K at h
  split at h
  · exact ⟨_, rfl, h⟩
  · exact h.elim
theorem eNeg (h : EV X a ss ts fun s r => i1K (fun i => Φ s (.own (.int (-i)))) r) : EV X (.UnaryOp .USub a pos) ss ts Φ :=
  ev_neg (h.imp fun s r h => by
    obtain ⟨i, rfl, q⟩ := i1K_of h
    exact ⟨i, Slot.is_own, q⟩)
theorem tLt (h : EV X a ss ts fun s1 r1 => EV X b s1 (r1 :: ts) fun s r2 => i2K (fun i j => Θ s (decide (i < j))) r1 r2) : TV X (.Compare a [.Lt] [b] pos) ss ts Θ :=
  tv_lt (h.imp fun s1 r1 h1 => h1.imp fun s r2 h2 => by
    obtain ⟨i, j, rfl, rfl, q⟩ := i2K_of h2
    exact ⟨i, j, Slot.is_own, Slot.is_own, q⟩)
theorem tGt (h : EV X a ss ts fun s1 r1 => EV X b s1 (r1 :: ts) fun s r2 => i2K (fun i j => Θ s (decide (j < i))) r1 r2) : TV X (.Compare a [.Gt] [b] pos) ss ts Θ :=
  tv_gt (h.imp fun s1 r1 h1 => h1.imp fun s r2 h2 => by
    obtain ⟨i, j, rfl, rfl, q⟩ := i2K_of h2
    exact ⟨i, j, Slot.is_own, Slot.is_own, q⟩)
@[reducible] def eq2K (k : Bool → Prop) : Slot → Slot → Prop
  | .own (.int i), .own (.int j) => k (decide (i = j))
  | .own (.bl i), .own (.bl j) => k (decide (i = j))
  | .own (.str i), .own (.str j) => k (decide (i = j))
  | _, _ => False
theorem eq2K_of {k : Bool → Prop} {r s : Slot} (h : eq2K k r s) : ∃ d1 d2 x y, r.is d1 ∧ s.is d2 ∧ d1.sc = some x ∧ d2.sc = some y ∧ scal x y = true ∧ k (decide (x = y)) := by
  unfold eq2K at h
  split at h
  · rename_i i j
    refine ⟨.int i, .int j, _, _, Slot.is_own, Slot.is_own, rfl, rfl, rfl, ?_⟩
    rw [show decide (V.int i = V.int j) = decide (i = j) from decide_eq_decide.mpr ⟨fun z => V.int.inj z, fun z => by rw [z]⟩]
    exact h
  · rename_i i j
    refine ⟨.bl i, .bl j, _, _, Slot.is_own, Slot.is_own, rfl, rfl, rfl, ?_⟩
    rw [show decide (V.bl i = V.bl j) = decide (i = j) from decide_eq_decide.mpr ⟨fun z => V.bl.inj z, fun z => by rw [z]⟩]
    exact h
  · rename_i i j
    refine ⟨.str i, .str j, _, _, Slot.is_own, Slot.is_own, rfl, rfl, rfl, ?_⟩
    rw [show decide (V.str i = V.str j) = decide (i = j) from decide_eq_decide.mpr ⟨fun z => V.str.inj z, fun z => by rw [z]⟩]
    exact h
  · exact h.elim
theorem tEq (h : EV X a ss ts fun s1 r1 => EV X b s1 (r1 :: ts) fun s r2 => eq2K (fun t => Θ s t) r1 r2) : TV X (.Compare a [.Eq] [b] pos) ss ts Θ := tv_eq (h.imp fun s1 r1 h1 => h1.imp fun s r2 h2 => eq2K_of h2)
theorem tNe (h : EV X a ss ts fun s1 r1 => EV X b s1 (r1 :: ts) fun s r2 => eq2K (fun t => Θ s (!t)) r1 r2) : TV X (.Compare a [.NotEq] [b] pos) ss ts Θ := tv_ne (h.imp fun s1 r1 h1 => h1.imp fun s r2 h2 => eq2K_of h2)
theorem eGe (h : EV X a ss ts fun s1 r1 => EV X b s1 (r1 :: ts) fun s r2 => i2K (fun i j => Φ s (.own (.bl (decide (j ≤ i))))) r1 r2) : EV X (.Compare a [.GtE] [b] pos) ss ts Φ :=
  ev_ge (h.imp fun s1 r1 h1 => h1.imp fun s r2 h2 => by
    obtain ⟨i, j, rfl, rfl, q⟩ := i2K_of h2
    exact ⟨i, j, Slot.is_own, Slot.is_own, q⟩)
theorem tVal (h : EV X e ss ts fun s r => b1K (fun t => Θ s t) r) (he : ∀ whole, isTrue e X.env whole = (do let v ← whole; standAt e.pos; holding [v] (truthy v)) := by intro _; rfl) : TV X e ss ts Θ :=
  tv_val (h.imp fun s r h => by
    obtain ⟨t, rfl, q⟩ := b1K_of h
    exact ⟨t, Slot.is_own, q⟩) he
@[reducible] def seqK (k : List D → Prop) : Slot → Prop
  | .own (.tup l) => k l
  | .own (.lst l) => k l
  | .par (.tup l) => k l
  | .par (.lst l) => k l
  | .par (.fz l) => k l
  | .view _ (.tup l) => k l
  | .view _ (.lst l) => k l
  | _ => False
theorem seqK_of {k : List D → Prop} {r : Slot} (h : seqK k r) : ∃ d l, r.is d ∧ d.seqL = some l ∧ k l := by
  unfold seqK at h
  split at h
  · exact ⟨_, _, Slot.is_own, rfl, h⟩
  · exact ⟨_, _, Slot.is_own, rfl, h⟩
  · exact ⟨_, _, Slot.is_par, rfl, h⟩
  · exact ⟨_, _, Slot.is_par, rfl, h⟩
  · exact ⟨_, _, Slot.is_par, rfl, h⟩
  · exact ⟨_, _, Slot.is_view, rfl, h⟩
  · exact ⟨_, _, Slot.is_view, rfl, h⟩
  · exact h.elim
theorem eIx (h : EV X a ss ts fun s1 r1 => EV X b s1 (r1 :: ts) fun s r2 => seqK (fun l => i1K (fun i => ∃ d, atI l i = some d ∧ d.flat = true ∧ Φ s (.own d)) r2) r1) (hs : PlainIx b := by intro _ _; rfl) : EV X (.Subscript a b pos) ss ts Φ :=
  ev_ix hs (h.imp fun s1 r1 h1 => h1.imp fun s r2 h2 => by
    obtain ⟨d0, l, e1, e2, h3⟩ := seqK_of h2
    obtain ⟨i, rfl, d, e3, e4, q⟩ := i1K_of h3
    exact ⟨d0, l, i, d, e1, e2, Slot.is_own, e3, e4, q⟩)
theorem eLen (hg : Gl X "len") (hm : X.mg "len" = none) (h : EV X e ss ts fun s r => seqK (fun l => Φ s (.own (.int ((l.length : Nat) : Int)))) r)
    (he : starEach [e] X.env = (false, eval e X.env) :: starEach [] X.env := by rfl) : EV X (.Call (.Name "len" p) [e] [] pos) ss ts Φ :=
  ev_len hg hm (h.imp fun s r h => by
    obtain ⟨d0, l, e1, e2, h3⟩ := seqK_of h
    exact ⟨d0, l, e1, e2, h3⟩) he
theorem eAbs (hm : X.mg "abs" = none) (h : EV X e ss ts fun s r => i1K (fun i => Φ s (.own (.int (if i < 0 then -i else i)))) r) (hg : Gl X "abs" := by rfl)
    (he : starEach [e] X.env = (false, eval e X.env) :: starEach [] X.env := by rfl) : EV X (.Call (.Name "abs" p) [e] [] pos) ss ts Φ :=
  ev_abs hg hm (h.imp fun s r h => by
    obtain ⟨i, rfl, q⟩ := i1K_of h
    exact ⟨i, Slot.is_own, q⟩) he
theorem eIntB (hm : X.mg "int" = none) (h : EV X e ss ts fun s r => b1K (fun i => Φ s (.own (.int (if i then 1 else 0)))) r) (hg : Gl X "int" := by rfl)
    (he : starEach [e] X.env = (false, eval e X.env) :: starEach [] X.env := by rfl) : EV X (.Call (.Name "int" p) [e] [] pos) ss ts Φ :=
  ev_intB hg hm (h.imp fun s r h => by
    obtain ⟨i, rfl, q⟩ := b1K_of h
    exact ⟨i, Slot.is_own, q⟩) he
theorem eListOf (hm : X.mg "list" = none) (h : EV X e ss ts fun s r => seqK (fun l => D.flats l = true ∧ Φ s (.own (.lst l))) r) (hg : Gl X "list" := by rfl)
    (he : starEach [e] X.env = (false, eval e X.env) :: starEach [] X.env := by rfl) : EV X (.Call (.Name "list" p) [e] [] pos) ss ts Φ :=
  ev_listOf hg hm (h.imp fun s r h => by
    obtain ⟨d0, l, e1, e2, h3⟩ := seqK_of h
    exact ⟨d0, l, e1, e2, h3⟩) he
@[reducible] def ownK : List Slot → (List D → Prop) → Prop
  | [], k => k []
  | .own d :: rs, k => ownK rs fun ds => k (d :: ds)
  | _, _ => False
theorem ownK_of : ∀ {rs : List Slot} {k : List D → Prop}, ownK rs k → ∃ ds, rs = ds.map Slot.own ∧ k ds
  | [], k, h => ⟨[], rfl, h⟩
  | .own d :: rs, k, h => by
    obtain ⟨ds, rfl, q⟩ := ownK_of (rs := rs) h
    exact ⟨d :: ds, rfl, q⟩
  | .no :: _, _, h => h.elim
  | .par _ :: _, _, h => h.elim
  | .view _ _ :: _, _, h => h.elim
@[reducible] def allK : List Slot → (List D → Prop) → Prop
  | [], k => k []
  | .own d :: rs, k => allK rs fun ds => k (d :: ds)
  | .par d :: rs, k => allK rs fun ds => k (d :: ds)
  | .view _ d :: rs, k => allK rs fun ds => k (d :: ds)
  | .no :: _, _ => False
theorem allK_of : ∀ {rs : List Slot} {k : List D → Prop}, allK rs k → ∃ ds, isAll rs ds ∧ k ds
  | [], k, h => ⟨[], trivial, h⟩
  | .own d :: rs, k, h => by
    obtain ⟨ds, i, q⟩ := allK_of (rs := rs) h
    exact ⟨d :: ds, ⟨Slot.is_own, i⟩, q⟩
  | .par d :: rs, k, h => by
    obtain ⟨ds, i, q⟩ := allK_of (rs := rs) h
    exact ⟨d :: ds, ⟨Slot.is_par, i⟩, q⟩
  | .view o d :: rs, k, h => by
    obtain ⟨ds, i, q⟩ := allK_of (rs := rs) h
    exact ⟨d :: ds, ⟨Slot.is_view, i⟩, q⟩
  | .no :: _, _, h => h.elim
@[reducible] def allNK (o : Own) : List Slot → (List D → Prop) → Prop
  | [], k => k []
  | .own d :: rs, k => allNK o rs fun ds => k (d :: ds)
  | .par d :: rs, k => allNK o rs fun ds => k (d :: ds)
  | .view o' d :: rs, k => o' ≠ o ∧ allNK o rs fun ds => k (d :: ds)
  | .no :: _, _ => False
theorem allNK_of {o : Own} : ∀ {rs : List Slot} {k : List D → Prop}, allNK o rs k → ∃ ds, isNs o rs ds ∧ k ds
  | [], k, h => ⟨[], trivial, h⟩
  | .own d :: rs, k, h => by
    obtain ⟨ds, i, q⟩ := allNK_of (rs := rs) h
    exact ⟨d :: ds, ⟨Slot.isN_own, i⟩, q⟩
  | .par d :: rs, k, h => by
    obtain ⟨ds, i, q⟩ := allNK_of (rs := rs) h
    exact ⟨d :: ds, ⟨Slot.isN_par, i⟩, q⟩
  | .view o' d :: rs, k, h => by
    obtain ⟨ds, i, q⟩ := allNK_of (rs := rs) h.2
    exact ⟨d :: ds, ⟨Slot.isN_view h.1, i⟩, q⟩
  | .no :: _, _, h => h.elim
theorem dTup {k : Nat} (h : AV X es ss ts fun s rs => ownK rs fun ds => Nat.ble ds.length 1000 = true ∧ Φ s (.own (.tup ds))) (ht : ∀ t, PA X es t → PE X (.Tuple es k pos) (tTup t) := by intro t h; exact pe_tup h) : EV X (.Tuple es k pos) ss ts Φ :=
  ev_tup (fun m B σ tv H Q hm hh k => h m B σ tv H Q hm hh fun s rs vs H' q => k s rs vs H' (by
    obtain ⟨ds, rfl, q1, q2⟩ := ownK_of q
    exact ⟨ds, rfl, Nat.le_of_ble_eq_true q1, q2⟩)) ht
theorem dLst {k : Pos} (h : AV X es ss ts fun s rs => ownK rs fun ds => Nat.ble ds.length 1000 = true ∧ Φ s (.own (.lst ds))) : EV X (.List es k) ss ts Φ :=
  ev_lst fun m B σ tv H Q hm hh k => h m B σ tv H Q hm hh fun s rs vs H' q => k s rs vs H' (by
    obtain ⟨ds, rfl, q1, q2⟩ := ownK_of q
    exact ⟨ds, rfl, Nat.le_of_ble_eq_true q1, q2⟩)
variable {k j : Nat} {ps : List Str} {f : Addr} {fd : FuncData} {dds : List D}
theorem cCall {F : List D → (D → Prop) → Prop} (C : DefAt X.prog X.w X.K X.mg X.base CX0 k x ps f fd dds F) (hr : Room j X.A) (hj : k ≤ j) (h : AV X (e :: es) ss ts fun s rs => allK rs fun ds => F (ds ++ dds) fun d => Φ s (.own d)) (hg : Gl X x := by rfl)
    (hdb : (x == ("__debug__" : Str)) = false := by decide) (he : starEach (e :: es) X.env = (false, eval e X.env) :: starEach es X.env := by rfl) (hpl : (backTo pos (starEach es X.env)).any (·.1) = false := by rfl) : EV X (.Call (.Name x p) (e :: es) [] pos) ss ts Φ :=
  eCall C hr hj (fun m B σ tv H Q hm hh k => h m B σ tv H Q hm hh fun s rs vs H' q => k s rs vs H' (allK_of q)) hg hdb he hpl
theorem cCallI {FI : D → List D → (D → D → Prop) → Prop} (C : DefI X.prog X.w X.K X.mg X.base CX0 k x ps f fd dds FI) (i : Nat) {d00 : D} (hr : Room j X.A) (hj : k ≤ j)
    (h : AV X es ss ts fun s rs => ∃ d0, s[i]? = some (.own d0) ∧ noView (.v i) ts = true ∧ allNK (.v i) rs fun ds => FI d0 (ds ++ dds) fun d' d => Φ ((s.map (kill (.v i))).set i (.own d')) (.own d))
    (h0 : ss[i]? = some (.own d00) := by rfl) (hN : X.N[i]? = some y := by rfl) (hg : Gl X x := by rfl) (hv : Vis X.env.scope y := by first | exact Or.inl rfl | exact Or.inr (Or.inl rfl) | exact Or.inr (Or.inr rfl)) (hd0 : (y == ("__debug__" : Str)) = false := by decide) (hcd : (y == ("__classdict__" : Str)) = false := by decide)
    (hdb : (x == ("__debug__" : Str)) = false := by decide) (he : starEach (.Name y py :: es) X.env = (false, eval (.Name y py) X.env) :: starEach es X.env := by rfl) (hpl : (backTo pos (starEach es X.env)).any (·.1) = false := by rfl) : EV X (.Call (.Name x p) (.Name y py :: es) [] pos) ss ts Φ :=
  eCallI C i hr hj (fun m B σ tv H Q hm hh k => h m B σ tv H Q hm hh fun s rs vs H' ⟨d0, q1, q2, q3⟩ => k s rs vs H' (by
    obtain ⟨ds, i1, q4⟩ := allNK_of q3
    exact ⟨d0, ds, q1, q2, i1, q4⟩)) h0 hN hg hv hd0 hcd hdb he hpl
end
end DL
namespace DL
structure Nb (b : Nat) (x : Int × Int) : Prop where
  pos : 0 < x.2
  top : x.1.natAbs < 2 ^ b
  bot : x.2.natAbs < 2 ^ b
  cop : Int.gcd x.1 x.2 = 1
theorem div_le {p g : Int} (hg : 0 < g) (hd : g ∣ p) : (p / g).natAbs ≤ p.natAbs := by
  obtain ⟨k, rfl⟩ := hd
  rw [Int.mul_ediv_cancel_left _ (by omega), Int.natAbs_mul]
  exact Nat.le_mul_of_pos_left _ (by omega)
theorem lt_mul {a b : Nat} {x y : Int} (h1 : x.natAbs < 2 ^ a) (h2 : y.natAbs < 2 ^ b) : (x * y).natAbs < 2 ^ (a + b) := by
  rw [Int.natAbs_mul, Nat.pow_add]
  exact Nat.mul_lt_mul'' h1 h2
theorem lt_add {a : Nat} {x y : Int} (h1 : x.natAbs < 2 ^ a) (h2 : y.natAbs < 2 ^ a) : (x + y).natAbs < 2 ^ (a + 1) := by
  rw [Nat.pow_succ]
  omega
theorem lt_up {a b : Nat} {x : Int} (h1 : x.natAbs < 2 ^ a) (h : a ≤ b) : x.natAbs < 2 ^ b := Nat.lt_of_lt_of_le h1 (Nat.pow_le_pow_right (by omega) h)
theorem Nb.up {a b : Nat} {x : Int × Int} (h : Nb a x) (hb : a ≤ b) : Nb b x := ⟨h.pos, lt_up h.top hb, lt_up h.bot hb, h.cop⟩
theorem log2_lt {x : Int} {b : Nat} (h : x.natAbs < 2 ^ b) (hb : 0 < b) : x.natAbs.log2 < b := by
  by_cases h0 : x.natAbs = 0
  · rw [h0]
    exact hb
  · exact (Nat.log2_lt h0).mpr h
theorem gcd_fmod (p q : Int) : Int.gcd q (p.fmod q) = Int.gcd p q := by
  rw [Int.fmod_def, Int.gcd_sub_mul_left_right, Int.gcd_comm]
theorem fmod_lt (p : Int) {q : Int} (h : q ≠ 0) : (p.fmod q).natAbs < q.natAbs := by
  rw [Int.fmod_eq_emod]
  have h1 := Int.emod_nonneg p h
  have h2 := Int.emod_lt_of_pos p (b := q.natAbs) (by omega)
  have h3 : p % (q.natAbs : Int) = p % q := by
    rcases Int.natAbs_eq q with e | e
    · rw [← e]
    · rw [e]
      simp
  rw [h3] at h2
  split
  · omega
  · rename_i c
    have hq : q < 0 := by
      rw [not_or] at c
      omega
    have h0 : p % q ≠ 0 := fun z => c (.inr (Int.dvd_of_emod_eq_zero z))
    omega
theorem gcd_zero (p : Int) : (Int.gcd p 0 : Int) = if p < 0 then -p else p := by
  rw [Int.gcd_zero]
  split <;> omega
structure Sp (b : Nat) (x : Int × Int) : Prop where
  pos : 0 < x.2
  top : x.1.natAbs < 2 ^ b
  bot : x.2.natAbs < 2 ^ b
theorem Nb.sp {b : Nat} {x : Int × Int} (h : Nb b x) : Sp b x := ⟨h.pos, h.top, h.bot⟩
theorem Sp.up {a b : Nat} {x : Int × Int} (h : Sp a x) (hb : a ≤ b) : Sp b x := ⟨h.pos, lt_up h.top hb, lt_up h.bot hb⟩
theorem ite_nn {b : Bool} {z : Int} (h : 0 ≤ z) : 0 ≤ if b = true then z else 0 := by cases b <;> first | exact h | exact Int.le_refl _
theorem ite_lt {b : Bool} {z : Int} {n : Nat} (h : z.natAbs < n) (h0 : 0 < n) : (if b = true then z else 0).natAbs < n := by cases b <;> first | exact h | exact h0
end DL
namespace DL
open PySem PySem.Spec PyProof.Rows L2
structure Txt (mg : Str → Option Value) : Prop where
  len : mg "len" = none
  range : mg "range" = none
  str : mg "str" = none
  isi : mg "isinstance" = none
  list : mg "list" = none
  sorted : mg "sorted" = none
  sum : mg "sum" = none
  abs : mg "abs" = none
  int : mg "int" = none
  bool : mg "bool" = none
  tuple : mg "tuple" = none
  divmod : mg "divmod" = none
  zip : mg "zip" = none
  enum : mg "enumerate" = none
  max : mg "max" = none
  min : mg "min" = none
  any : mg "any" = none
  all : mg "all" = none
  verr : mg "ValueError" = none
theorem cmul {x y : Int} (a b : Nat) (h1 : x.natAbs < 2 ^ a) (h2 : y.natAbs < 2 ^ b) (ha : 0 < a) (hb : 0 < b) (h : a + b ≤ 1000000) : CMulW x y := by
  have := log2_lt h1 ha
  have := log2_lt h2 hb
  unfold CMulW
  omega
theorem cdiv {x y : Int} (b : Nat) (h0 : 0 < y) (h2 : y.natAbs < 2 ^ b) (hb : 0 < b) (h : b ≤ 9000) : CDivW x y := ⟨h0, by
  have := log2_lt h2 hb
  omega⟩
@[reducible] def fr (x : Int × Int) : D := .tup [.int x.1, .int x.2]
def Pile (n : Nat) (d : D) : Prop := ∃ a b c : Int, d = .lst [.int a, .int b, .int c] ∧ 0 ≤ a ∧ a.natAbs < 2 ^ 500 ∧ b.natAbs < 2 ^ 31 ∧ 0 ≤ c ∧ c ≤ n
theorem Pile.up {n k : Nat} {d : D} (h : Pile n d) (e : n ≤ k) : Pile k d := by
  obtain ⟨a, b, c, h1, h2, h3, h4, h5, h6⟩ := h
  exact ⟨a, b, c, h1, h2, h3, h4, h5, by omega⟩
theorem HeldF.ownP {K : PySem.W.Frag} {m : Nat → Prop} {B H : Hp} {fp : Own → List Addr} {σ : List (Option V)} {ss ts : List Slot} {tv : List V} {i : Nat} {d : D} (h : HeldF K m B H fp σ ss tv ts) (hs : ss[i]? = some (.par d)) (hf : d.flat = true) (h1 : noView (.v i) ss = true) (h2 : noView (.v i) ts = true) :
    HeldF K m B H (fupd fp (.v i) []) σ (ss.set i (.own d)) tv ts := by
  refine ⟨h.base, by simpa using h.slen, h.tlen, h.mle, fun j s e => ?_, fun j s e => ?_, fun o o' a => ?_, fun o => ?_, fun o a => ?_, fun o a => ?_⟩
  · have hi := isSome_lt (by rw [hs]; rfl : (ss[i]?).isSome = true)
    by_cases hj : j = i
    · subst hj
      rw [List.getElem?_set_self hi] at e
      cases e
      obtain ⟨v, e1, e2⟩ := h.var j _ hs
      refine ⟨v, e1, ?_⟩
      rw [fupd_same]
      exact (e2.mono h.base).flatO hf
    · rw [List.getElem?_set_ne (Ne.symm hj)] at e
      have z := h.var j s e
      cases s with
      | no => trivial
      | par d => exact z
      | own d =>
        obtain ⟨w, e3, e4⟩ := z
        refine ⟨w, e3, ?_⟩
        rw [fupd_vv hj]
        exact e4
      | view o' d =>
        obtain ⟨z1, w, e3, e4⟩ := z
        refine ⟨z1, w, e3, ?_⟩
        rw [fupd_ne (fun z => noView_mem h1 _ (List.mem_of_getElem? e) d (by rw [z]))]
        exact e4
  · have z := h.tmp j s e
    have ms : s ∈ ts := List.mem_reverse.mp (List.mem_of_getElem? e)
    cases s with
    | no => trivial
    | par d => exact z
    | own d =>
      obtain ⟨w, e3, e4⟩ := z
      refine ⟨w, e3, ?_⟩
      rw [fupd_tv]
      exact e4
    | view o' d =>
      obtain ⟨z1, w, e3, e4⟩ := z
      refine ⟨z1, w, e3, ?_⟩
      rw [fupd_ne (fun z => noView_mem h2 _ ms d (by rw [z]))]
      exact e4
  · show a ∈ (if o = .v i then [] else fp o) → a ∈ (if o' = .v i then [] else fp o') → o = o'
    by_cases h1 : o = .v i
    · rw [if_pos h1]; exact fun z => nomatch z
    · by_cases h2 : o' = .v i
      · rw [if_pos h2]; exact fun _ z => nomatch z
      · rw [if_neg h1, if_neg h2]; exact h.disj o o' a
  · show (if o = .v i then [] else fp o).Nodup
    split
    · exact List.nodup_nil
    · exact h.nod o
  · show a ∈ (if o = .v i then [] else fp o) → _
    split
    · exact fun z => nomatch z
    · exact h.out o a
  · show a ∈ (if o = .v i then [] else fp o) → _
    split
    · exact fun z => nomatch z
    · exact h.dom o a
section
variable {X : Cx} {fx : List Nat} {ss ts : List Slot} {Φ : List Slot → Slot → Prop} {a b : Expr} {pos : Pos} {E : DE} {sts : List Stmt}
theorem sv_ownP (i : Nat) {d : D} (h : SV X fx sts (ss.set i (.own d)) ts E) (hs : ss[i]? = some (.par d) := by rfl) (hf : d.flat = true := by rfl) (h1 : noView (.v i) ss = true := by rfl) (h2 : noView (.v i) ts = true := by rfl) : SV X fx sts ss ts E := fun B σ tv H D ⟨fp, hh⟩ k =>
  h B σ tv H D ⟨_, hh.ownP hs hf h1 h2⟩ k
theorem eModN (h : EV X a ss ts fun s1 r1 => EV X b s1 (r1 :: ts) fun s r2 => i2K (fun i j => j ≠ 0 ∧ Φ s (.own (.int (i.fmod j)))) r1 r2) : EV X (.BinOp a .Mod b pos) ss ts Φ :=
  ev_modN (h.imp fun s1 r1 h1 => h1.imp fun s r2 h2 => by
    obtain ⟨i, j, rfl, rfl, q⟩ := i2K_of h2
    exact ⟨i, j, Slot.is_own, Slot.is_own, q⟩)
theorem eDivN (h : EV X a ss ts fun s1 r1 => EV X b s1 (r1 :: ts) fun s r2 => i2K (fun i j => (j ≠ 0 ∧ j.natAbs.log2 < 9000) ∧ Φ s (.own (.int (i.fdiv j)))) r1 r2) : EV X (.BinOp a .FloorDiv b pos) ss ts Φ :=
  ev_fdivN (h.imp fun s1 r1 h1 => h1.imp fun s r2 h2 => by
    obtain ⟨i, j, rfl, rfl, q⟩ := i2K_of h2
    exact ⟨i, j, Slot.is_own, Slot.is_own, q⟩)
end
@[reducible] def Slot.dd : Slot → Option D
  | .own d => some d
  | .par d => some d
  | .view _ d => some d
  | .no => none
theorem Slot.dd_is {r : Slot} {d : D} (h : r.dd = some d) : r.is d := by
  cases r with
  | no => cases h
  | own _ => cases h; exact Slot.is_own
  | par _ => cases h; exact Slot.is_par
  | view _ _ => cases h; exact Slot.is_view
@[reducible] def d1K (k : D → Prop) (r : Slot) : Prop := match r.dd with
  | some d => k d
  | none => False
theorem d1K_of {k : D → Prop} {r : Slot} (h : d1K k r) : ∃ d, r.is d ∧ k d := by
  unfold d1K at h
  split at h
  · rename_i d e
    exact ⟨d, Slot.dd_is e, h⟩
  · exact h.elim
section
variable {X : Cx} {fx : List Nat} {ss ts : List Slot} {Φ : List Slot → Slot → Prop} {Θ : List Slot → Bool → Prop} {a b e : Expr} {pos p px : Pos} {E : DE} {x : Str} {tg l : Expr} {Ψ : List Slot → List Slot → List El → Prop}
theorem tNeP (hu : X.A.units + 64 < cLine) (h : EV X a ss ts fun s1 r1 => EV X b s1 (r1 :: ts) fun s r2 => d1K (fun d1 => d1K (fun d2 => d1.pl 16 = true ∧ d2.pl 16 = true ∧ Θ s (!deq d1 d2)) r2) r1) : TV X (.Compare a [.NotEq] [b] pos) ss ts Θ :=
  tv_neP 16 (by decide) hu (h.imp fun s1 r1 h1 => h1.imp fun s r2 h2 => by
    obtain ⟨d1, e1, h3⟩ := d1K_of h2
    obtain ⟨d2, e2, h4⟩ := d1K_of h3
    exact ⟨d1, d2, e1, e2, h4⟩)
theorem eEqP (hu : X.A.units + 64 < cLine) (h : EV X a ss ts fun s1 r1 => EV X b s1 (r1 :: ts) fun s r2 => d1K (fun d1 => d1K (fun d2 => d1.pl 16 = true ∧ d2.pl 16 = true ∧ Φ s (.own (.bl (deq d1 d2)))) r2) r1) : EV X (.Compare a [.Eq] [b] pos) ss ts Φ :=
  ev_eqP 16 (by decide) hu (h.imp fun s1 r1 h1 => h1.imp fun s r2 h2 => by
    obtain ⟨d1, e1, h3⟩ := d1K_of h2
    obtain ⟨d2, e2, h4⟩ := d1K_of h3
    exact ⟨d1, d2, e1, e2, h4⟩)
theorem eIn (h : EV X a ss ts fun s1 r1 => EV X b s1 (r1 :: ts) fun s r2 => d1K (fun d1 => seqK (fun l => ∃ x xs, d1.sc = some x ∧ l.mapM D.sc = some xs ∧ Θ s (inV x xs)) r2) r1) (hb : behindInMarks .In b = false := by rfl) : TV X (.Compare a [.In] [b] pos) ss ts Θ :=
  tv_in (h.imp fun s1 r1 h1 => h1.imp fun s r2 h2 => by
    obtain ⟨d1, e1, h3⟩ := d1K_of h2
    obtain ⟨d2, l, e2, e3, x, xs, e4, e5, q⟩ := seqK_of h3
    exact ⟨d1, d2, x, l, xs, e1, e2, e4, e3, e5, q⟩) hb
theorem wLst (h : EV X l ss ts fun s r => d1K (fun d => ∃ ds, d = .lst ds ∧ (∀ d ∈ ds, d.flat = true) ∧ Ψ s [r] (ds.map fun d => .one (.own d))) r) : IV X tg l ss ts Ψ :=
  iv_listF (h.imp fun s r h => by
    obtain ⟨d, e, ds, rfl, q⟩ := d1K_of h
    exact ⟨ds, e, q⟩)
theorem wRange {a : Expr} (hm : X.mg "range" = none) (h : EV X a ss ts fun s r => i1K (fun j => (-(2 ^ 62) ≤ j ∧ j < 2 ^ 62) ∧ Ψ s [] ((List.range j.toNat).map fun k => .one (.own (.int ((k : Nat) : Int))))) r) (hg : Gl X "range" := by rfl)
    (hs : starEach [a] X.env = [(false, eval a X.env)] := by rfl) : IV X tg (.Call (.Name "range" p) [a] [] pos) ss ts Ψ :=
  iv_range1 hg hm (h.imp fun s r h => by
    obtain ⟨i, rfl, q1, q2⟩ := i1K_of h
    exact ⟨i, Slot.is_own, q1.1, q1.2, q2⟩) hs
variable {k j : Nat} {ps : List Str} {f : Addr} {fd : FuncData} {dds : List D}
end
theorem atI_if {x y : Int} {b : Bool} : atI [D.int x, D.int y] (if b = true then 1 else 0) = some (.int (if b = true then y else x)) := by cases b <;> rfl
end DL
namespace DL
open PySem PySem.Spec PyProof.Rows L2
@[reducible] def pick {α : Type} : List Nat → List α → List α
  | [], _ => []
  | i :: is, l => match l[i]? with
    | some x => x :: pick is l
    | none => pick is l
theorem pick_vals : ∀ {is : List Nat} {vs : List V} {us : List Value}, Vals vs us → Vals (pick is vs) (pick is us)
  | [], _, _, _ => .nil
  | i :: is, vs, us, r => by
    have hl := r.length
    unfold pick
    cases e : vs[i]? with
    | none =>
      have e2 : us[i]? = none := by
        rw [List.getElem?_eq_none_iff] at e ⊢
        omega
      rw [e2]
      exact pick_vals r
    | some x =>
      obtain ⟨u, e2, r2⟩ := r.get e
      rw [e2]
      exact .cons r2 (pick_vals r)
theorem pick_reps {K : PySem.W.Frag} {H : Hp} : ∀ {is : List Nat} {ds : List D} {vs : List V}, RepRs K H ds vs → RepRs K H (pick is ds) (pick is vs)
  | [], _, _, _ => by unfold pick; exact reps_nil
  | i :: is, ds, vs, r => by
    have hl := r.length
    unfold pick
    cases e : ds[i]? with
    | none =>
      have e2 : vs[i]? = none := by
        rw [List.getElem?_eq_none_iff] at e ⊢
        omega
      rw [e2]
      exact pick_reps r
    | some x =>
      obtain ⟨u, e2, r2⟩ := r.get e
      rw [e2]
      exact reps_cons r2 (pick_reps r)
structure DefK (P : Program) (w : World) (K : PySem.W.Frag) (mg : Str → Option Value) (base : Heap) (CX : CXT) (k : Nat) (x : Str) (ps : List Str) (f : Addr) (fd : FuncData) (n : Nat) (ks : List Str) (is : List Nat) (dds : List D) (F : List D → (D → Prop) → Prop) : Prop where
  ok : FnOk P w K mg base CX k f fd ps (spP K F)
  nm : mg x = some (.ref f)
  kp : PySem.W.keepIn K (.ref f) = true
  kb : ∃ (its : List Value) (dvs : List V), KBn K fd ps n ks (fun us ws => pick is (us ++ its ++ ws)) (fun vs zs => pick is (vs ++ dvs ++ zs)) ∧ ∀ H, RepRs K H dds dvs
section
variable {X : Cx} {fx : List Nat} {ss ts : List Slot} {Φ : List Slot → Slot → Prop} {e : Expr} {es : List Expr} {pos p : Pos} {x : Str} {k j n : Nat} {ps ks : List Str} {is : List Nat} {f : Addr} {fd : FuncData} {dds : List D} {F : List D → (D → Prop) → Prop} {kws : List Keyword}
theorem cCallK0 (C : DefK X.prog X.w X.K X.mg X.base CX0 k x ps f fd 0 ks is dds F) (hr : Room j X.A) (hj : k ≤ j) (h : KV X kws ss ts fun s rs => allK rs fun ds => ds.length = ks.length ∧ F (pick is (dds ++ ds)) fun d => Φ s (.own d)) (hg : Gl X x := by rfl)
    (hall : (backToKw pos (keywordEach kws X.env)).all (·.1.isSome) = true := by rfl) (hks : (backToKw pos (keywordEach kws X.env)).filterMap (·.1) = ks := by rfl)
    (hdb : (x == ("__debug__" : Str)) = false := by decide)
    (hpl : ((backTo pos (starEach [] X.env)).any (·.1) || (backToKw pos (keywordEach kws X.env)).any (·.1.isNone)) = false := by rfl) : EV X (.Call (.Name x p) [] kws pos) ss ts Φ := by
  obtain ⟨its, dvs, b1, b2⟩ := C.kb
  refine ev_callK0 C.ok (hr.mono hj) hg C.nm C.kp b1 pass0 (fun es => pick is (dds ++ es)) (fun H zs es r _ => ?_) (fun m B σ tv H Q hm hh k => h m B σ tv H Q hm hh fun s rs vs H' q => k s rs vs H' (allK_of q)) hall hks hdb hpl
  exact pick_reps ((b2 H).append r)
end
section
variable {K : PySem.W.Frag} {x qual : Str} {params : Arguments} {body : List Stmt} {scope : Scope} {dvs : List V} {f : Addr} {fd : FuncData} {ps : List Str}
theorem kbN (F : FunD K x qual params body scope [] [] f fd) (n : Nat) (ks : List Str) (is : List Nat) (h : ∀ (kV doc pm : Value) (an : Option Addr) (cdv ct : Value) (us ws : List Value), us.length = n → ws.length = ks.length →
      bindArgs (PySem.W.fnOf x qual params body scope .none kV doc pm an cdv ct) ⟨us, ks.zip ws⟩ = pure (ps.zip (pick is (us ++ [] ++ ws)))) :
    ∃ (its : List Value) (dvs : List V), KBn K fd ps n ks (fun us ws => pick is (us ++ its ++ ws)) (fun vs zs => pick is (vs ++ dvs ++ zs)) ∧ ∀ H, RepRs K H [] dvs := by
  obtain ⟨oc, od, dV, kV, doc, pm, an, cdv, ct, osl, rfl, lk, hcd, hD, hK⟩ := F.ex
  rcases hD with ⟨_, rfl⟩ | ⟨e, _⟩
  · exact ⟨[], [], ⟨fun s us ws X l1 l2 => .of_eq (h kV doc pm an cdv ct us ws l1 l2), fun r1 r2 => pick_vals ((r1.append .nil).append r2)⟩, fun H => reps_nil⟩
  · exact absurd rfl e
end
end DL
namespace DL
open PySem PySem.Spec PyProof.Rows L2
abbrev AlT : Type := Bool × He.AlD
def obsT (tb : List (Str × List He.Dv)) (fa : List He.Fa) (fn : List He.DefD) (K : PySem.W.Frag) : AlT := (tb.all fun p => He.Fa.ok K (.glo p.1) && He.tupB K p.1 p.2, He.obsD fa fn K)
def SaysT (tb : List (Str × List He.Dv)) (fa : List He.Fa) (fn : List He.DefD) (K : PySem.W.Frag) : Prop := obsT tb fa fn K = (true, He.valD fn)
section
variable {tb : List (Str × List He.Dv)} {fa : List He.Fa} {fn : List He.DefD} {K : PySem.W.Frag}
theorem SaysT.says (c : SaysT tb fa fn K) : He.SaysD fa fn K := congrArg (fun z : AlT => z.2) c
theorem SaysT.tup (c : SaysT tb fa fn K) (i : Nat) {p : Str × List He.Dv} (h : tb[i]? = some p := by rfl) : He.Fa.ok K (.glo p.1) = true ∧ He.tupB K p.1 p.2 = true := by
  have c1 : (tb.all fun p => He.Fa.ok K (.glo p.1) && He.tupB K p.1 p.2) = true := congrArg (fun z : AlT => z.1) c
  exact He.ba (List.all_eq_true.mp c1 p (List.mem_of_getElem? h))
theorem SaysT.fr {h : Heap} {mg : Str → Option Value} (X : K.In h) (G : h.Ns mainGlobals mg) (c : SaysT tb fa fn K) (i : Nat) {x : Str} {p q : Int} (e : tb[i]? = some (x, [.int p, .int q]) := by rfl) : GloD K mg x (fr (p, q)) := by
  obtain ⟨c1, c2⟩ := c.tup i e
  refine ⟨_, .ref (He.ga K x), He.glo_ok X G c1, rfl, fun H => ?_⟩
  unfold RepO
  exact ⟨_, _, rfl, He.tupB_ok c2 H, reps_ofInts [p, q]⟩
end
theorem reps_int {K : PySem.W.Frag} {H : Hp} : ∀ ns : List Int, RepRs K H (ns.map D.int) (ns.map V.int)
  | [] => reps_nil
  | n :: ns => reps_cons r_int (DL.reps_int ns)
end DL
namespace DL
theorem lowest_num {p q : Int} (h : q ≠ 0) : (Rat.divInt p q).num = p.fdiv (if q < 0 then -(Int.gcd p q : Int) else (Int.gcd p q : Int)) := by
  have hg : (Int.gcd p q : Int) ∣ p := Int.gcd_dvd_left ..
  have h0 : 0 < Int.gcd p q := Nat.pos_of_ne_zero fun z => h (Int.gcd_eq_zero_iff.mp z).2
  rw [Rat.num_divInt, Int.gcd_comm q p]
  by_cases c : q < 0
  · rw [if_pos c, Int.sign_eq_neg_one_of_neg c, Int.fdiv_eq_ediv_of_dvd (Int.neg_dvd.mpr hg), Int.ediv_neg, Int.neg_mul, Int.one_mul, Int.neg_ediv_of_dvd hg]
  · rw [if_neg c, Int.sign_eq_one_of_pos (by omega), Int.fdiv_eq_ediv_of_dvd hg, Int.one_mul]
theorem lowest_den {p q : Int} (h : q ≠ 0) : ((Rat.divInt p q).den : Int) = q.fdiv (if q < 0 then -(Int.gcd p q : Int) else (Int.gcd p q : Int)) := by
  have hg : (Int.gcd p q : Int) ∣ q := Int.gcd_dvd_right ..
  have h0 : 0 < Int.gcd p q := Nat.pos_of_ne_zero fun z => h (Int.gcd_eq_zero_iff.mp z).2
  rw [Rat.den_divInt, if_neg h, Int.gcd_comm q p, Int.natCast_ediv]
  by_cases c : q < 0
  · rw [if_pos c, Int.fdiv_eq_ediv_of_dvd (Int.neg_dvd.mpr hg), Int.ediv_neg, show ((q.natAbs : Nat) : Int) = -q by omega, Int.neg_ediv_of_dvd hg]
  · rw [if_neg c, Int.fdiv_eq_ediv_of_dvd hg, show ((q.natAbs : Nat) : Int) = q by omega]
theorem lowest_whole {p q : Int} (h : q ≠ 0) (e : p.fmod q = 0) : (Rat.divInt p q).num = p.fdiv q ∧ ((Rat.divInt p q).den : Int) = 1 := by
  have hd : q ∣ p := Int.dvd_of_fmod_eq_zero e
  have e1 : (Int.gcd p q : Int) = q.natAbs := by
    have e : Int.gcd p q = Nat.gcd p.natAbs q.natAbs := rfl
    rw [e, Nat.gcd_eq_right (Int.natAbs_dvd_natAbs.mpr hd)]
  have e2 : (if q < 0 then -(Int.gcd p q : Int) else (Int.gcd p q : Int)) = q := by
    rw [e1]
    split <;> omega
  rw [lowest_num h, lowest_den h, e2]
  exact ⟨rfl, Int.fdiv_self h⟩
theorem den_pos (a : Rat) : (0 : Int) < (a.den : Int) := Int.natCast_pos.mpr a.den_pos
theorem den_ne (a : Rat) : (a.den : Int) ≠ 0 := by have := den_pos a; omega
theorem add_divInt (a b : Rat) : Rat.divInt (a.num * b.den + b.num * a.den) (a.den * b.den) = a + b := by
  rw [← Rat.divInt_add_divInt _ _ (den_ne a) (den_ne b), Rat.num_divInt_den, Rat.num_divInt_den]
theorem divInt_num_le {p q : Int} (h : q ≠ 0) : (Rat.divInt p q).num.natAbs ≤ p.natAbs := by
  have hg : (Int.gcd p q : Int) ∣ p := Int.gcd_dvd_left ..
  have h0 : 0 < Int.gcd p q := Nat.pos_of_ne_zero fun z => h (Int.gcd_eq_zero_iff.mp z).2
  rw [lowest_num h]
  split
  · rw [Int.fdiv_eq_ediv_of_dvd (Int.neg_dvd.mpr hg), Int.ediv_neg, Int.natAbs_neg]
    exact div_le (by omega) hg
  · rw [Int.fdiv_eq_ediv_of_dvd hg]
    exact div_le (by omega) hg
theorem divInt_den_le {p q : Int} (h : q ≠ 0) : ((Rat.divInt p q).den : Int).natAbs ≤ q.natAbs := by
  have hg : (Int.gcd p q : Int) ∣ q := Int.gcd_dvd_right ..
  have h0 : 0 < Int.gcd p q := Nat.pos_of_ne_zero fun z => h (Int.gcd_eq_zero_iff.mp z).2
  rw [lowest_den h]
  split
  · rw [Int.fdiv_eq_ediv_of_dvd (Int.neg_dvd.mpr hg), Int.ediv_neg, Int.natAbs_neg]
    exact div_le (by omega) hg
  · rw [Int.fdiv_eq_ediv_of_dvd hg]
    exact div_le (by omega) hg
structure Sz (b : Nat) (x : Rat) : Prop where
  top : x.num.natAbs < 2 ^ b
  bot : (x.den : Int).natAbs < 2 ^ b
theorem Sz.up {a b : Nat} {x : Rat} (h : Sz a x) (hb : a ≤ b) : Sz b x := ⟨lt_up h.top hb, lt_up h.bot hb⟩
theorem Sz.neg {b : Nat} {x : Rat} (h : Sz b x) : Sz b (-x) := ⟨by rw [Rat.neg_num, Int.natAbs_neg]; exact h.top, by rw [Rat.neg_den]; exact h.bot⟩
theorem Sz.of {b : Nat} {p q : Int} (h : q ≠ 0) (h1 : p.natAbs < 2 ^ b) (h2 : q.natAbs < 2 ^ b) : Sz b (Rat.divInt p q) := ⟨Nat.lt_of_le_of_lt (divInt_num_le h) h1, Nat.lt_of_le_of_lt (divInt_den_le h) h2⟩
theorem Sz.add {a b : Nat} {x y : Rat} (h : Sz a x) (k : Sz b y) : Sz (a + b + 1) (x + y) := by
  rw [← add_divInt]
  refine .of (Int.mul_ne_zero (den_ne x) (den_ne y)) (lt_add (lt_mul h.top k.bot) ?_) (lt_up (lt_mul h.bot k.bot) (by omega))
  rw [Int.mul_comm]
  exact lt_mul h.bot k.top
theorem Sz.sub {a b : Nat} {x y : Rat} (h : Sz a x) (k : Sz b y) : Sz (a + b + 1) (x - y) := by
  rw [Rat.sub_eq_add_neg]
  exact h.add k.neg
end DL
namespace DL
open PySem PySem.Spec PyProof.Rows L2
theorem call_divmodN {X : Cx} : CallR X (.builtin "divmod") (fun xs H Q => ∃ i j, xs = [.int i, .int j] ∧ (j ≠ 0 ∧ j.natAbs.log2 < 9000) ∧ ∀ p, H p = none → Q (.ref p) (upd H p (.tup [.int (i.fdiv j), .int (i.fmod j)]))) := by
  intro pins s σ H xs us Q I r h
  obtain ⟨i, j, rfl, ⟨h1, h2⟩, q⟩ := h
  obtain ⟨u, w', rfl, ⟨t, rfl⟩, ⟨t', rfl⟩⟩ := vals2 r
  refine divmod_int h1 ?_ (.inl (PyProof.noPylong_of_log2 h2))
  have hn : H s.heap.objs.size = none := I.hok.fresh (Nat.le_refl _)
  refine ⟨.ref s.heap.objs.size, _, ?_, rfl, q _ hn⟩
  refine I.laid (fun b o e => Heap.get?_push_of_some _ e) (Nat.le_refl _) ⟨by simp only [List.length_cons, List.length_nil]; rw [sizeLine_eq]; decide, [.int (i.fdiv j) s.toks, .int (i.fmod j) (s.toks + 1)], .cons ⟨_, rfl⟩ (.cons ⟨_, rfl⟩ .nil), ?_⟩
  exact ⟨_, Heap.get?_push_size s.heap rfl, rfl, 0, rfl⟩
section
variable {X : Cx} {ss ts : List Slot} {Φ : List Slot → Slot → Prop} {a b : Expr} {pos p : Pos}
theorem eDivmodN (hm : X.mg "divmod" = none) (h : EV X a ss ts fun s1 r1 => EV X b s1 (r1 :: ts) fun s r2 => i2K (fun i j => (j ≠ 0 ∧ j.natAbs.log2 < 9000) ∧ Φ s (.own (.tup [.int (i.fdiv j), .int (i.fmod j)]))) r1 r2) (hg : Gl X "divmod" := by rfl)
    (he : starEach [a, b] X.env = (false, eval a X.env) :: starEach [b] X.env := by rfl) (he2 : starEach [b] X.env = (false, eval b X.env) :: starEach [] X.env := by rfl) (hpl : (backTo pos (starEach [b] X.env)).any (·.1) = false := by rfl) : EV X (.Call (.Name "divmod" p) [a, b] [] pos) ss ts Φ :=
  ev_callB call_divmodN hg hm (by decide +kernel) (av_cons (h.imp fun s1 r1 h1 => av_cons (h1.imp fun s r2 h2 => by
    obtain ⟨i, j, rfl, rfl, hc, q⟩ := i2K_of h2
    refine av_nil ⟨[.int i, .int j], fun d => d = .tup [.int (i.fdiv j), .int (i.fmod j)], ⟨Slot.is_own, Slot.is_own, trivial⟩, fun H vs Q rr k => ?_, fun d hd => by rw [hd]; exact q⟩
    obtain ⟨v, w, rfl, hv, hw⟩ := reps2 rr
    rw [rep_int] at hv hw
    exact ⟨i, j, by rw [hv, hw], hc, fun p hp => k _ _ _ rfl (.tup hp fun H => reps_ofInts [i.fdiv j, i.fmod j])⟩) he2) he) (he := he) (hpl := hpl)
end
@[reducible] def fq (x : Rat) : D := .tup [.int x.num, .int (x.den : Int)]
theorem flats_fq : ∀ l : List Rat, D.flats (l.map fq) = true
  | [] => by unfold D.flats; rfl
  | x :: l => by rw [List.map_cons]; unfold D.flats; rw [flats_fq l]; rfl
end DL
namespace DZ
open PySem
section
variable {prog : Program} {w : World} {A : Around} {E : Value → Shared → Prop} {s : Shared}
theorem stop_ok {α : Type} {Q : α → Shared → Prop} (hh : A.handled = none) (q : ∀ h' e, (∀ c o, s.heap.get? c = some o → h'.get? c = some o) → (∃ o, h'.get? e = some o ∧ o.cls = .type "StopIteration") → E (.ref e) { s with heap := h' }) :
    wpAny (model prog w) A (Builtin.SmallTypes.stopIteration : Sem α) Q E s := by
  show wpAny _ _ (newExc (.type "StopIteration") [] >>= fun e => raiseNew e) _ _ _
  refine wpAny_bind ?_
  simp only [newExc, newTuple]
  refine wpAny_bind (wpAny_newObj_type ?_ (by size_fits))
  refine wpAny_bind (m := firstArgMember _ _) (wpAny_of_eq (a := Value.none) (by first | rfl | (simp only [firstArgMember]; rfl)) ?_)
  refine wpAny_newObj_type ?_ (by size_fits)
  simp only [raiseNew]
  refine wpAny_bind (wpAny_handled ?_)
  first | rw [show A.in1.handled = none from hh] | rw [hh]
  refine wpAny_bind (wpAny_pure (wpAny_throw ?_))
  exact q _ _ (fun c o g => Heap.get?_push_of_some _ (Heap.get?_push_of_some _ g)) ⟨_, Heap.get?_push_size _ rfl, rfl⟩
end
abbrev SZip (h : Heap) (z TI TO : Addr) (f0 : Value) : Prop := h.get? z = some { cls := .type "zip", dict := none, data := .fields #[f0, .bool false, .bool true, .ref TI, .ref TO], slots := #[] }
section
variable {prog : Program} {w : World} {A : Around} {E : Value → Shared → Prop} {s : Shared}
theorem ownedGo {elts : List Expr} {x1} {pos : Pos} {Z TI TO T : Addr} {Q : Unit → Shared → Prop} (kz : SZip s.heap Z TI TO (rawInt T)) (q : ∀ h', SZip h' Z TI TO .none → Heap.SameBut Z s.heap h' → Q () { s with heap := h' }) :
    wpAny (model prog w) A (letOwnedTupleGo (.Tuple elts x1 pos) (.ref Z) (.ref T)) Q E s := by
  unfold letOwnedTupleGo
  refine wpAny_bind (wpAny_load kz ?_)
  show wpAny _ _ (if (["enumerate", "zip", "dict_itemiterator", "dict_reverseitemiterator", "odict_iterator", "itertools.zip_longest", "itertools.pairwise"].contains "zip" && (#[rawInt T, .bool false, .bool true, .ref TI, .ref TO] : Array Value)[0]? == some (rawInt T)) = true then _ else _) Q E s
  rw [if_pos (by simp)]
  refine wpAny_bind (wpAny_rule ?_)
  exact wpAny_setField_rec kz (by simp) fun h' a b => q h' a b
theorem pyIter_z {z TI TO : Addr} {f0 : Value} {Q : Value → Shared → Prop} (kz : SZip s.heap z TI TO f0) (h : Q (.ref z) s) : wpAny (model prog w) A (pyIter (.ref z)) Q E s := by
  have ty : s.TypeIs (.ref z) "zip" := ⟨_, kz, rfl⟩
  exact wpAny_pyIter_slot ty F.slot_zip_iter (wpAny_call_entry F.slot_zip_iter ty F.entry_zip_iter (wpAny_pure ⟨_, rfl, "zip", _, ty, F.slot_zip_next.lookup, h⟩) (F.args_zip_iter_1 _))
theorem ty_call (a b : Value) : checkTypeCall "zip" ⟨[a, b], [(Str.ofString "strict", .bool true)]⟩ = pure () := by kernel_rfl
theorem nw_call (a b : Value) : checkBuiltinCall "zip.__new__" ⟨[.type "zip", a, b], [(Str.ofString "strict", .bool true)]⟩ = pure () := by kernel_rfl
theorem in_args (o a b : Value) : argsOk "object.__init__" ⟨[o, a, b], [(Str.ofString "strict", .bool true)]⟩ := by unfold argsOk; kernel_rfl
end
end DZ
namespace DL
open PySem PySem.Spec PyProof.Rows L2
theorem callWith_tyK {M : Model} {A : Around} {E : Value → Shared → Prop} {s : Shared} {env : Env} {pos : Pos} {T : String} {e : Expr} {rest : List Expr} {kws : List Keyword} {Q : Value → Shared → Prop}
    (h : wpAny M A (spliced (backTo pos (starEach (e :: rest) env))) (fun vs s1 => wpAny M A (evalAll ((backToKw pos (keywordEach kws env)).map (·.2))) (fun kvs s2 => wpAny M A (call (.type T) vs (((backToKw pos (keywordEach kws env)).filterMap (·.1)).zip kvs)) Q E s2) E s1) E s)
    (he : backTo pos (starEach (e :: rest) env) = (false, eval e env) :: backTo pos (starEach rest env)) (hp : (backTo pos (starEach (e :: rest) env)).any (·.1) = false)
    (ha : (backToKw pos (keywordEach kws env)).all (·.1.isSome) = true) (hk : (backToKw pos (keywordEach kws env)).any (·.1.isNone) = false) : wpAny M A (callWith pos (.type T) [] (backTo pos (starEach (e :: rest) env)) (backToKw pos (keywordEach kws env))) Q E s := by
  unfold callWith
  have h2 : wpAny M A (evalArgs (.type T) true (backTo pos (starEach (e :: rest) env)) (backToKw pos (keywordEach kws env))) (fun a s1 => wpAny M A (call (.type T) ([] ++ a.pos) a.kw) Q E s1) E s := by
    rw [he] at h ⊢
    exact evalArgs_kwB ha h
  refine wpAny_bind (wpAny_holding (wpAny_mono h2 (fun a s1 k1 => wpAny_bind (wpAny_standAt ?_)) fun _ _ x => x))
  simp only [hp, hk, Bool.or_false]
  exact wpAny_bind (wpAny_pure (wpAny_bind (wpAny_mono k1 (fun r s2 k2 => wpAny_bind (wpAny_holding (wpAny_point (wpAny_pure k2)))) fun _ _ x => x)))
end DL
namespace DL
open PySem PySem.Spec PyProof.Rows L2
section
variable {X : Cx} {ss ts : List Slot} {Φ : List Slot → Slot → Prop} {a b l tg : Expr} {pos p : Pos} {Ψ : List Slot → List Slot → List El → Prop}
theorem wLstV (h : EV X l ss ts fun s r => d1K (fun d => ∃ ds, d = .lst ds ∧ Ψ s [r] (ds.map fun d => .one (sub ts.length r d))) r) : IV X tg l ss ts Ψ :=
  iv_list (h.imp fun s r h => by
    obtain ⟨d, e, ds, rfl, q⟩ := d1K_of h
    exact ⟨ds, e, q⟩)
@[reducible] def lentK (k : List D → (D → Slot) → Prop) : Slot → Prop
  | .par (.lst l) => k l Slot.par
  | .par (.tup l) => k l Slot.par
  | .view o (.lst l) => k l (Slot.view o)
  | .view o (.tup l) => k l (Slot.view o)
  | _ => False
theorem lentK_of {k : List D → (D → Slot) → Prop} {r : Slot} (h : lentK k r) : ∃ d0 l, d0.seqL = some l ∧ ((r = .par d0 ∧ k l Slot.par) ∨ ∃ o, r = .view o d0 ∧ k l (Slot.view o)) := by
  unfold lentK at h
  split at h
  · exact ⟨_, _, rfl, .inl ⟨rfl, h⟩⟩
  · exact ⟨_, _, rfl, .inl ⟨rfl, h⟩⟩
  · exact ⟨_, _, rfl, .inr ⟨_, rfl, h⟩⟩
  · exact ⟨_, _, rfl, .inr ⟨_, rfl, h⟩⟩
  · exact h.elim
theorem eIxV (h : EV X a ss ts fun s1 r1 => EV X b s1 (r1 :: ts) fun s r2 => lentK (fun l mk => i1K (fun i => ∃ d, atI l i = some d ∧ Φ s (mk d)) r2) r1) (hs : PlainIx b := by intro _ _; rfl) : EV X (.Subscript a b pos) ss ts Φ := fun m B σ tv H Q hm hh k => by
  refine toE (pe_ix ix_seq pe_w pe_w hs) ?_
  refine h m B σ tv H _ hm hh fun s1 r1 x H1 h1 hh1 => ?_
  refine h1 m B σ (x :: tv) H1 _ hm.up hh1 fun s r2 y H2 hq hh2 => ?_
  obtain ⟨d0, l, e1, hz⟩ := lentK_of hq
  clear hq
  obtain ⟨fp, hf⟩ := hh2
  have hf1 := hf.pop hm.up
  have hlen : tv.length = ts.length := by have := hf1.tlen; simpa using this
  have slot := hf1.top
  have key : ∀ i, r2 = .own (.int i) → ∀ d, atI l i = some d → ∀ (HR : Hp), RepR X.K HR d0 x → Ex HR H2 → (∀ w, RepR X.K HR d w → Q w H2) → rIx X.K x y H2 Q := fun i ei d hd HR rr ex fin => by
    have z2 := hf.top
    rw [ei] at z2
    obtain ⟨yv, ey, ry⟩ := z2
    have ey2 : y = yv := Option.some.inj ey
    subst ey2
    have iy := ry.rep
    rw [rep_int] at iy
    obtain ⟨p, vs, rfl, sq, rs⟩ := D.seq_rep rr e1
    have hl := rs.length
    unfold atI at hd
    rw [← hl] at hd
    obtain ⟨j, j1, j2⟩ := Option.bind_eq_some_iff.mp hd
    obtain ⟨w, w1, w2⟩ := rs.get j2
    have e5 : atI vs i = some w := by unfold atI; rw [j1]; exact w1
    rcases sq with sq | sq
    · exact .inl ⟨p, vs, i, w, rfl, iy, ex.sql sq, e5, fin w w2⟩
    · exact .inr (.inl ⟨p, vs, i, w, rfl, iy, ex.sqt sq, e5, fin w w2⟩)
  rcases hz with ⟨rfl, hq⟩ | ⟨o, rfl, hq⟩
  · obtain ⟨i, ei, d, hd, q⟩ := i1K_of hq
    obtain ⟨v, ev, rv⟩ := slot
    have e2 : x = v := Option.some.inj ev
    subst e2
    refine key i ei d hd B rv hf.base fun w rw' => k _ _ w H2 q ⟨_, (hf1.pop hm).pushV (o := .t ts.length) (fun _ z => nomatch z) ⟨w, rfl, rw'⟩⟩
  · obtain ⟨i, ei, d, hd, q⟩ := i1K_of hq
    obtain ⟨ok, v, ev, rv⟩ := slot
    have e2 : x = v := Option.some.inj ev
    subst e2
    refine key i ei d hd _ rv restr_ex fun w rw' => k _ _ w H2 q ⟨_, (hf1.pop hm).pushV (o := .t ts.length) (fun _ z => nomatch z) ⟨ok, w, rfl, rw'⟩⟩
end
end DL
namespace DL
def RowB (n : Nat) (r : List Rat) : Prop := ∃ d : Int, 0 < d ∧ d.natAbs < 2 ^ n ∧ ∀ x ∈ r, ∃ p : Int, x = Rat.divInt p d ∧ p.natAbs < 2 ^ n
theorem RowB.sz {n : Nat} {r : List Rat} (h : RowB n r) {x : Rat} (hx : x ∈ r) : Sz n x := by
  obtain ⟨d, h0, hd, hp⟩ := h
  obtain ⟨p, rfl, hp⟩ := hp x hx
  exact .of (by omega) hp hd
theorem RowB.up {n m : Nat} {r : List Rat} (h : RowB n r) (k : n ≤ m) : RowB m r := by
  obtain ⟨d, h0, hd, hp⟩ := h
  exact ⟨d, h0, lt_up hd k, fun x hx => by
    obtain ⟨p, e, hp⟩ := hp x hx
    exact ⟨p, e, lt_up hp k⟩⟩
theorem RowB.lead {n : Nat} {r : List Rat} (h : RowB n r) {v : Rat} (hv : v ∈ r) (h0 : v ≠ 0) : RowB n (r.map (· * (1 / v))) := by
  obtain ⟨d, d0, hd, hp⟩ := h
  obtain ⟨pv, ev, hpv⟩ := hp v hv
  have pv0 : pv ≠ 0 := fun z => h0 (by rw [ev, z, Rat.zero_divInt])
  have key : ∀ p : Int, Rat.divInt p d * (1 / v) = Rat.divInt p pv := fun p => by
    rw [ev]
    have e1 : (1 : Rat) / Rat.divInt pv d = Rat.divInt d pv := by
      rw [Rat.div_def, Rat.inv_divInt, Rat.one_mul]
    rw [e1, Rat.divInt_mul_divInt, Int.mul_comm d pv, Rat.divInt_mul_right (by omega)]
  rcases Int.lt_or_gt_of_ne pv0 with hneg | hpos
  · refine ⟨-pv, by omega, by omega, fun x hx => ?_⟩
    obtain ⟨y, hy, rfl⟩ := List.mem_map.mp hx
    obtain ⟨p, rfl, hp⟩ := hp y hy
    exact ⟨-p, by rw [key, ← Rat.neg_divInt_neg p pv], by omega⟩
  · refine ⟨pv, hpos, hpv, fun x hx => ?_⟩
    obtain ⟨y, hy, rfl⟩ := List.mem_map.mp hx
    obtain ⟨p, rfl, hp⟩ := hp y hy
    exact ⟨p, key p, hp⟩
theorem RowB.without {n : Nat} {r l : List Rat} (h : RowB n r) (k : RowB n l) {v : Rat} (hv : v ∈ r) : RowB (2 * n + 1) (List.zipWith (fun p q => p - v * q) r l) := by
  obtain ⟨d, d0, hd, hp⟩ := h
  obtain ⟨c, c0, hc, hq⟩ := k
  obtain ⟨pv, rfl, hpv⟩ := hp v hv
  refine ⟨d * c, Int.mul_pos d0 c0, ?_, fun x hx => ?_⟩
  · have := lt_mul hd hc
    rw [show n + n = 2 * n by omega] at this
    exact lt_up this (by omega)
  · obtain ⟨i, hi⟩ := List.getElem?_of_mem hx
    rw [List.getElem?_zipWith] at hi
    cases e1 : r[i]? with
    | none => rw [e1] at hi; cases hi
    | some y =>
      cases e2 : l[i]? with
      | none => rw [e1, e2] at hi; cases hi
      | some z =>
        rw [e1, e2] at hi
        have ex : y - Rat.divInt pv d * z = x := Option.some.inj hi
        obtain ⟨p, rfl, hp⟩ := hp y (List.mem_of_getElem? e1)
        obtain ⟨q, rfl, hq⟩ := hq z (List.mem_of_getElem? e2)
        refine ⟨p * c - pv * q, ?_, ?_⟩
        · rw [← ex, Rat.divInt_mul_divInt, Rat.sub_eq_add_neg, Rat.neg_divInt, show Rat.divInt p d = Rat.divInt (p * c) (d * c) from (Rat.divInt_mul_right (by omega)).symm]
          have e3 := Rat.divInt_add_divInt (p * c) (-(pv * q)) (d₁ := d * c) (d₂ := d * c) (Int.mul_ne_zero (by omega) (by omega)) (Int.mul_ne_zero (by omega) (by omega))
          rw [e3, ← Int.add_mul, Rat.divInt_mul_right (Int.mul_ne_zero (by omega) (by omega)), Int.sub_eq_add_neg]
        · have a1 := lt_mul hp hc
          have a2 := lt_mul hpv hq
          rw [show n + n = 2 * n by omega] at a1 a2
          have := lt_add a1 (y := -(pv * q)) (by rw [Int.natAbs_neg]; exact a2)
          rw [Int.sub_eq_add_neg]
          exact this
def ent (M : List (List Rat)) (i j : Nat) : Rat := (((M[i]?).getD [])[j]?).getD 0
def firstRow (M : List (List Rat)) (st c : Nat) : Option Nat := (List.range M.length).find? fun i => decide (st ≤ i) && decide (ent M i c ≠ 0)
structure El3 where
  rows : List (List Rat)
  led : List Nat
  num : Rat
def El3.turn (s : El3) (c : Nat) : El3 := match firstRow s.rows s.led.length c with
  | none => ⟨s.rows, s.led, 0⟩
  | some a =>
    let k := s.led.length
    let num := if a ≠ k then -s.num else s.num
    let R := (s.rows.set a ((s.rows[k]?).getD [])).set k ((s.rows[a]?).getD [])
    let v := ent R k c
    let lead := ((R[k]?).getD []).map (· * (1 / v))
    ⟨(R.map fun r => List.zipWith (fun p q => p - (r[c]?).getD 0 * q) r lead).set k lead, s.led ++ [c], num * v⟩
def elim (M : List (List Rat)) (m : Nat) : El3 := (List.range m).foldl El3.turn ⟨M, [], 1⟩
end DL
namespace DL
open PySem PySem.Spec PyProof.Rows L2
theorem RepOs.parts {K : PySem.W.Frag} {H : Hp} : ∀ {ds : List D} {vs : List V} {G : List Addr}, RepOs K H ds vs G ↔ ∃ Fs : List (List Addr), Fs.length = ds.length ∧ vs.length = ds.length ∧ G = Fs.flatten ∧ ∀ (i : Nat) (d : D) (v : V) (F : List Addr), ds[i]? = some d → vs[i]? = some v → Fs[i]? = some F → RepO K H d v F
  | [], vs, G => by
    unfold RepOs
    constructor
    · rintro ⟨rfl, rfl⟩
      exact ⟨[], rfl, rfl, rfl, fun i d v F h => by simp at h⟩
    · rintro ⟨Fs, h1, h2, rfl, _⟩
      have e1 : Fs = [] := List.eq_nil_of_length_eq_zero h1
      exact ⟨List.eq_nil_of_length_eq_zero h2, by rw [e1]; rfl⟩
  | d :: ds, vs, G => by
    unfold RepOs
    constructor
    · rintro ⟨w, ws, F1, F2, rfl, rfl, r1, r2⟩
      obtain ⟨Fs, h1, h2, rfl, h3⟩ := RepOs.parts.mp r2
      refine ⟨F1 :: Fs, by simp [h1], by simp [h2], rfl, fun i d' v' F' e1 e2 e3 => ?_⟩
      cases i with
      | zero => cases e1; cases e2; cases e3; exact r1
      | succ i => exact h3 i d' v' F' (by simpa using e1) (by simpa using e2) (by simpa using e3)
    · rintro ⟨Fs, h1, h2, rfl, h3⟩
      match Fs, vs, h1, h2 with
      | F :: Fs, v :: vs, h1, h2 =>
        exact ⟨v, vs, F, Fs.flatten, rfl, rfl, h3 0 d v F rfl rfl rfl, RepOs.parts.mpr ⟨Fs, by simpa using h1, by simpa using h2, rfl, fun i d' v' F' e1 e2 e3 => h3 (i + 1) d' v' F' (by simpa using e1) (by simpa using e2) (by simpa using e3)⟩⟩
end DL
namespace DL
open PySem PySem.Spec PyProof.Rows L2
structure XD where
  C : Addr
  ns : List Str := []
  l : List D := []
def XD.d (x : XD) : D := .exc x.C x.ns x.l
def ExcAt (K : PySem.W.Frag) (H : Hp) (cls : Value) (d : Option Addr) (x : XD) : Prop := cls = .ref x.C ∧ D.flats x.l = true ∧ ∃ fs, xdOk H d fs ∧ fs.map (·.1) = x.ns ∧ RepRs K H x.l (fs.map (·.2))
def WR (K : PySem.W.Frag) (B : Hp) (fx : List Nat) (σ0 : List (Option V)) (tv : List V) (ts : List Slot) (R : XD → List Slot → Prop) : WX := fun cls d σ H =>
  ∃ x ss, R x ss ∧ ExcAt K H cls d x ∧ (∀ i, i ∈ fx → σ[i]? = σ0[i]?) ∧ Held K (fun k => k < ts.length) B H σ (ss.map (killT ts.length)) tv ts
structure XT (X : Cx) (B : Hp) (fx : List Nat) (σ : List (Option V)) (tv : List V) (ts : List Slot) (R : XD → List Slot → Prop) : Prop where
  tk : Takes X (WR X.K B fx σ tv ts R)
  ps : PassesOwn (model X.prog X.w) X.A X.env X.xe
theorem XT.to {X : Cx} {B : Hp} {fx : List Nat} {σ σ' : List (Option V)} {tv : List V} {ts : List Slot} {R : XD → List Slot → Prop} (t : XT X B fx σ tv ts R) (e : ∀ i, i ∈ fx → σ'[i]? = σ[i]?) : XT X B fx σ' tv ts R :=
  ⟨t.tk.imp fun cls d σ2 H ⟨x, ss, h1, h2, h4, h5⟩ => ⟨x, ss, h1, h2, fun i hi => (h4 i hi).trans (e i hi), h5⟩, t.ps⟩
def EVX (X : Cx) (B : Hp) (e : Expr) (ss ts : List Slot) (Φ : List Slot → Slot → Prop) (R : XD → List Slot → Prop) : Prop :=
  ∀ m fx σ tv H Q, Low m ts.length → Held X.K m B H σ ss tv ts → (∀ ss' r v H', Φ ss' r → Held X.K m B H' σ ss' (v :: tv) (r :: ts) → Q v H') → XT X B fx σ tv ts R → wE X e σ H Q
def SVX (X : Cx) (B : Hp) (fx : List Nat) (sts : List Stmt) (ss ts : List Slot) (E : DE) (R : XD → List Slot → Prop) : Prop :=
  ∀ σ tv H D, Held X.K (fun k => k < ts.length) B H σ ss tv ts → EndsOk X.K B fx σ tv ts E D → XT X B fx σ tv ts R → wSs X sts D σ H
def S1X (X : Cx) (B : Hp) (fx : List Nat) (st : Stmt) (ss ts : List Slot) (E : DE) (R : XD → List Slot → Prop) : Prop :=
  ∀ σ tv H D, Held X.K (fun k => k < ts.length) B H σ ss tv ts → EndsOk X.K B fx σ tv ts E D → XT X B fx σ tv ts R → wS X st D σ H
theorem _root_.L2.PS.nox {X : Cx} {st : Stmt} {t : TS} (h : PS X.nox st t) : PS X st t := ⟨fun pins s σ H D I hw =>
  wpAny_mono (h.run pins s σ H D (I.wish _) hw) (fun _ _ q => q.unwish) fun _ _ z => False.elim z⟩
section
variable {X : Cx} {B : Hp} {fx : List Nat} {ss ts : List Slot} {Φ : List Slot → Slot → Prop} {e a b c tg it : Expr} {es : List Expr} {pos p : Pos} {E : DE} {st : Stmt} {rest sts sts2 : List Stmt} {R : XD → List Slot → Prop}
theorem evx_ev (h : EV X.nox e ss ts Φ) : EVX X B e ss ts Φ R := fun m fx σ tv H Q hm hh k _ => toE (PE.nox pe_w) (h m B σ tv H Q hm hh k)
theorem s1x_s1 (h : S1 X.nox fx st ss ts E) : S1X X B fx st ss ts E R := fun σ tv H D hh k _ => toS (PS.nox ps_w) (h B σ tv H D hh k)
theorem svx_sv (h : SV X.nox fx sts ss ts E) : SVX X B fx sts ss ts E R := fun σ tv H D hh k _ => toSs (PSs.nox pss_w) (h B σ tv H D hh k)
theorem svx_nil (q : E.nx ss) : SVX X B fx [] ss ts E R := svx_sv (sv_nil q)
theorem svx_cons (h : S1X X B fx st ss ts (E.thn fun s => SVX X B fx rest s ts E R) R) : SVX X B fx (st :: rest) ss ts E R := fun σ tv H D hh k t => by
  refine toSs (pss_cons ps_w pss_w) ?_
  refine h σ tv H _ hh ⟨fun s σ' H' q h' z => ?_, k.rt, k.bk, k.ct⟩ t
  exact q σ' tv H' D h' (k.to z) (t.to z)
theorem svx_one (h : S1X X B fx st ss ts E R) : SVX X B fx [st] ss ts E R := fun σ tv H D hh k t => toSs (pss_one ps_w) (h σ tv H D hh k t)
theorem s1x_ret (h : EVX X B e ss ts (fun s r => E.rt s r) R) : S1X X B fx (.Return (some e) pos) ss ts E R := fun σ tv H D hh k t => by
  refine toS (ps_ret pe_w) ?_
  exact h (fun k => k < ts.length) fx σ tv H _ Low.self hh (fun s r v H' q h' => k.rt s r σ v H' q h' fun _ _ => rfl) t
theorem s1x_if (h : TV X c ss ts fun s t => (t = true → SVX X B fx sts s ts E R) ∧ (t = false → SVX X B fx sts2 s ts E R)) : S1X X B fx (.If c sts sts2 pos) ss ts E R := fun σ tv H D hh k xt => by
  refine toS (ps_if pt_w pss_w pss_w) ?_
  refine h (fun k => k < ts.length) B σ tv H _ Low.self hh fun s t H1 ⟨q1, q2⟩ hh1 => ?_
  cases t with
  | true => exact iteT (q1 rfl σ tv H1 D hh1 k xt)
  | false => exact iteF (q2 rfl σ tv H1 D hh1 k xt)
theorem s1x_set {i : Nat} {x : Str} {pos' : Pos} (hN : X.N.Nodup) (hi : X.N[i]? = some x) (hx : Loc X.env.scope x) (hfx : i ∉ fx) (hil : (ss[i]?).isSome = true)
    (h : EVX X B e ss ts (fun s r => s.length = ss.length ∧ noView (.v i) (r :: ts) = true ∧ E.nx ((s.map (kill (.v i))).set i r)) R) (hs : swapsWith e (some (.Name x pos')) pos.line X.env = pure false := by rfl)
    (hf : X.fn x = true ∨ X.env.scope.names.lookup x = some .local := by first | exact .inl rfl | exact .inr rfl | assumption) : S1X X B fx (.Assign [.Name x pos'] e pos) ss ts E R := fun σ tv H D hh k xt => by
  refine toS (ps_set hN hi hx pe_w hs hf) ?_
  refine h (fun k => k < ts.length) fx σ tv H _ Low.self hh (fun s r v H' ⟨l, n1, q⟩ h' => ?_) xt
  refine k.nx _ _ H' q (h'.assign Low.self (by rw [l]; exact isSome_lt hil) (noView_tail n1) (noView_head n1)) fun j hj => ?_
  exact List.getElem?_set_ne (fun z => by subst z; exact hfx hj)
def wMk (X : Cx) (e : Expr) : L2.St → Hp → XK → Prop := fun σ H Q => ∀ pins s, Inv X pins σ H s → wpAny (model X.prog X.w) X.A (eval e X.env) (MkP X pins σ Q) X.xe s
theorem pmk_w : PMk X e (wMk X e) := fun pins s σ H Q I h => h pins s I
theorem toMk {t : L2.St → Hp → XK → Prop} {σ : L2.St} {H : Hp} {Q : XK} (p : PMk X e t) (q : t σ H Q) : wMk X e σ H Q := fun pins s I => p pins s σ H Q I q
def MV (X : Cx) (e : Expr) (ss ts : List Slot) (Ψ : List Slot → XD → Prop) : Prop :=
  ∀ m B σ tv H Q, Low m ts.length → Held X.K m B H σ ss tv ts → (∀ ss' x cls d H', Ψ ss' x → ExcAt X.K H' cls d x → Held X.K m B H' σ ss' tv ts → Q cls d H') → wMk X e σ H Q
theorem s1x_raise (hc : X.calm = true) (h : MV X e ss ts fun s x => R x s) : S1X X B fx (.Raise (some e) none pos) ss ts E R := fun σ tv H D hh k xt => by
  refine toS (ps_raise hc xt.tk pmk_w) ?_
  refine h (fun k => k < ts.length) B σ tv H _ Low.self hh fun ss' x cls d H' q1 q2 h' => ?_
  exact ⟨x, ss', q1, q2, fun _ _ => rfl, h'.less (fun _ _ q => q) Low.self h'.vok⟩
theorem excAt_plain {K : PySem.W.Frag} {H : Hp} {C : Addr} : ExcAt K H (.ref C) none ⟨C, [], []⟩ := ⟨rfl, by unfold D.flats; rfl, [], .inl ⟨rfl, rfl⟩, rfl, by unfold RepRs; rfl⟩
structure ExK (K : PySem.W.Frag) (mg : Str → Option Value) (x : Str) (C : Addr) : Prop where
  ex : PySem.W.excIn K C He.veBase "ValueError.__new__" = true
  gC : mg x = some (.ref C)
  kC : PySem.W.keepIn K (.ref C) = true
  bC : PySem.W.subIn K (.ref C) (.type "BaseException") = some true
  tC : PySem.W.typeIn K (.ref C) = some (.type "type")
theorem mk_text {x : Str} {mm : Str} {C : Addr} {j : Nat} {p p2 pos : Pos} {Ψ : List Slot → XD → Prop} (T : ExK X.K X.mg x C) (q : Ψ ss ⟨C, [], []⟩) (hg : Gl X x := by rfl) (hdb : (x == ("__debug__" : Str)) = false := by decide) : MV X (.Call (.Name x p) [.Constant (.str mm) j p2] [] pos) ss ts Ψ := fun m B σ tv H Q hm hh k =>
  toMk (pmk_own PySem.F.excBase_ValueError T.ex T.gC T.kC (raises_own T.bC T.tC) hg hdb) (k ss _ _ none H q excAt_plain hh)
end
end DL
namespace DL
open PySem PySem.Spec PyProof.Rows L2
abbrev FX := List D → (D → Prop) → (XD → Prop) → Prop
def spX (K : PySem.W.Frag) (F : FX) : L2.Sp := fun vs H Q E => ∃ ds kn kx, RepRs K H ds vs ∧ F ds kn kx ∧ (∀ d v H', kn d → New K H H' v d → Q v H') ∧ (∀ x cls d H', kx x → Ex H H' → ExcAt K H' cls d x → E cls d H')
section
variable {P : Program} {w : World} {K : PySem.W.Frag} {mg : Str → Option Value} {base : Heap}
theorem fun_okX {x qual : Str} {st : Stmt} {dvs : List V} {f : Addr} {fd : FuncData} {N ps : List Str} {k : Nat} {F : FX} (Fn : FunD K x qual (defArgs st) (defBody st) (defScope st) dvs [] f fd) (S : FnScope N ps (defScope st))
    (len : ∀ ds q r, F ds q r → ds.length = ps.length)
    (hbody : ∀ (cdv : Value) (A : Around) (outer : List Env) (s : Shared) (H : Hp) (E : XK), Room k (A.deeper (envOfC qual (defScope st) s.heap.objs.size f cdv)) → ∀ ds (q : D → Prop) (r : XD → Prop), F ds q r →
      SVX (cxOf (L2.CX P w) P w K mg base N qual (defScope st) f cdv A outer s H E) H [] (defBody st) (ds.map Slot.par ++ List.replicate (N.length - ps.length) .no) []
        { nx := fun _ => q .non, rt := fun _ r => ∃ d, r = .own d ∧ q d } (fun y _ => r y)) :
    FnOk P w K mg base (L2.CX P w) (k + 1) f fd ps (spX K F) := by
  refine Fn.ok S (fun vs H Q E ⟨ds, kn, kx, rr, hF, _⟩ => ?_) fun cdv A outer s H vs Q E hr ⟨ds, kn, kx, rr, hF, hn, hx⟩ => ?_
  · have l1 := len ds _ _ hF
    have := rr.length
    omega
  · have l1 := len ds _ _ hF
    have l2 := rr.length
    refine ⟨_, pss_w, ?_⟩
    have st0 : start N vs = vs.map some ++ List.replicate (N.length - vs.length) none := rfl
    obtain ⟨fp, hf⟩ := held_par rr
    have h0 : Held K (fun k => k < 0) H H (start N vs) (ds.map Slot.par ++ List.replicate (N.length - ps.length) .no) [] [] := by
      refine ⟨fp, hf.base, ?_, rfl, Low.self, fun i s e => ?_, fun k s e => by simp at e, hf.disj, hf.nod, hf.out, hf.dom⟩
      · rw [st0]
        simp only [List.length_append, List.length_map, List.length_replicate]
        omega
      · by_cases hi : i < (ds.map Slot.par).length
        · rw [List.getElem?_append_left hi] at e
          rw [st0, List.getElem?_append_left (by simpa [l2] using hi)]
          exact hf.var i s e
        · rw [List.getElem?_append_right (Nat.le_of_not_lt hi)] at e
          have e2 : s = .no := by
            rw [List.getElem?_replicate] at e
            split at e
            · exact (Option.some.inj e).symm
            · cases e
          subst e2
          trivial
    refine hbody cdv A outer s H E hr ds _ _ hF (start N vs) [] H _ h0 ⟨fun s2 σ2 H2 q h2 z => ?_, fun s2 r σ2 v H2 ⟨d, e, q⟩ h2 z => ?_, fun _ _ _ z => z.elim, fun _ _ _ z => z.elim⟩ ⟨?_, passes_of rfl⟩
    · have hb : Ex H H2 := by obtain ⟨_, h2⟩ := h2; exact h2.base
      exact hn .non .non H2 q ⟨hb, [], o_non, List.nodup_nil, fun a ha => nomatch ha⟩
    · subst e
      obtain ⟨fp2, h2⟩ := h2
      obtain ⟨w2, e1, e2⟩ := h2.top
      cases e1
      exact hn d v H2 q ⟨h2.base, _, e2, h2.nod _, fun a ha => h2.out _ a ha⟩
    · refine (takes_of rfl rfl rfl rfl).imp fun cls d σ2 H2 ⟨y, s2, q, xa, _, fp2, h2⟩ => ?_
      exact hx y cls d H2 q h2.base xa
end
structure DefX (P : Program) (w : World) (K : PySem.W.Frag) (mg : Str → Option Value) (base : Heap) (k : Nat) (x : Str) (ps : List Str) (f : Addr) (fd : FuncData) (dds : List D) (F : FX) : Prop where
  ok : FnOk P w K mg base (L2.CX P w) k f fd ps (spX K F)
  nm : mg x = some (.ref f)
  kp : PySem.W.keepIn K (.ref f) = true
  bd : ∃ (dvs : List V) (dfl : List Value), Binds K fd ps dfl ∧ Vals dvs dfl ∧ ∀ H, RepRs K H dds dvs
theorem spP_X {K : PySem.W.Frag} {F : FX} {vs : List V} {H : Hp} {Q : VK} {E : XK} (h : spP K (fun ds k => F ds k fun _ => False) vs H Q E) : spX K F vs H Q fun _ _ _ => False := by
  obtain ⟨B, ss, hh, ds, k, rfl, hF, q⟩ := h
  have rr : RepRs K H ds vs := by
    obtain ⟨fp, hf⟩ := hh
    have hl := hf.slen
    have key : ∀ (ds : List D) (vs : List V), vs.length = ds.length → (∀ (i : Nat) (d : D), ds[i]? = some d → ∃ v, vs[i]? = some v ∧ RepR K H d v) → RepRs K H ds vs := by
      intro ds
      induction ds with
      | nil =>
        intro vs l _
        have : vs = [] := List.length_eq_zero_iff.mp l
        subst this
        unfold RepRs
        rfl
      | cons d ds ih =>
        intro vs l g
        cases vs with
        | nil => simp at l
        | cons v vs =>
          unfold RepRs
          obtain ⟨u, e, r⟩ := g 0 d rfl
          cases e
          exact ⟨v, vs, rfl, r, ih vs (by simpa using l) fun i d' e => by
            obtain ⟨u, e1, e2⟩ := g (i + 1) d' (by simpa using e)
            exact ⟨u, by simpa using e1, e2⟩⟩
    refine key ds vs (by simpa using hl) fun i d e => ?_
    obtain ⟨v, e1, e2⟩ := hf.var i (.par d) (by rw [List.getElem?_map, e]; rfl)
    refine ⟨v, ?_, e2.mono hf.base⟩
    rw [List.getElem?_map] at e1
    cases z : vs[i]? with
    | none => rw [z] at e1; cases e1
    | some y => rw [z] at e1; have z2 : some y = some v := e1; rw [z2]
  have hb : Ex B H := by obtain ⟨_, hf⟩ := hh; exact hf.base
  refine ⟨ds, k, fun _ => False, rr, hF, fun d v H' hk n => ?_, fun x cls d H' z => z.elim⟩
  exact q d hk v H' (hh.new n)
theorem fnOk_plain {P : Program} {w : World} {K : PySem.W.Frag} {mg : Str → Option Value} {base : Heap} {k : Nat} {f : Addr} {fd : FuncData} {ps : List Str} {F : FX} (h : FnOk P w K mg base (L2.CX P w) k f fd ps (spX K F)) : FnOk P w K mg base CX0 k f fd ps (spP K fun ds k => F ds k fun _ => False) :=
  ⟨fun vs H Q E q => h.len vs H Q (fun _ _ _ => False) (spP_X q), fun A outer s H args us vs Q E hr he hb hv hs => codeAny_mono (h.run A outer s H args us vs Q (fun _ _ _ => False) hr he hb hv (spP_X hs)) fun r s' hq => by
    cases r with
    | error e =>
      obtain ⟨_, _, _, _, _, _, _, _, _, _, _, _, z⟩ := hq
      exact z.elim
    | ok fl => cases fl <;> exact hq⟩
theorem DefX.plain {P : Program} {w : World} {K : PySem.W.Frag} {mg : Str → Option Value} {base : Heap} {k : Nat} {x : Str} {ps : List Str} {f : Addr} {fd : FuncData} {dds : List D} {F : FX} (C : DefX P w K mg base k x ps f fd dds F) : DefAt P w K mg base CX0 k x ps f fd dds fun ds k => F ds k fun _ => False :=
  ⟨fnOk_plain C.ok, C.nm, C.kp, C.bd⟩
section
variable {X : Cx} {k j : Nat} {f : Addr} {fd : FuncData} {ps : List Str} {x : Str} {e : Expr} {es : List Expr} {p pos : Pos} {B : Hp} {ss ts : List Slot} {Φ : List Slot → Slot → Prop} {R : XD → List Slot → Prop} {dds : List D} {F : FX}
theorem run_fnX {CX : CXT} {E : XK} {sp : L2.Sp} {dvs vs : List V} {ds us : List Value} {pins : List (Addr × Obj)} {σ : L2.St} {H : Hp} {s : Shared} {Q : VK} (F : FnOk X.prog X.w X.K X.mg X.base CX k f fd ps sp) (hr : Room k X.A) (hb : Binds X.K fd ps ds) (hd : Vals dvs ds)
    (hx : ∀ e s', CX X.stack H s E e s' → X.xe e s') (I : Inv X pins σ H s) (r : Vals vs us) (h : sp (vs ++ dvs) H Q E) : wpAny (model X.prog X.w) X.A (call (.ref f) us) (EP X pins σ Q) X.xe s := by
  have r2 : Vals (vs ++ dvs) (us ++ ds) := r.append hd
  have hl : (us ++ ds).length = ps.length := by rw [← r2.length]; exact F.len _ _ _ _ h
  refine wpAny_call (codeAny_mono (F.run X.A X.stack s H ⟨us, []⟩ (us ++ ds) (vs ++ dvs) Q E hr I.env0 (hb s us I.kIn hl) r2 h) fun r s' hq => ?_)
  cases r with
  | error e => exact hx e s' hq
  | ok fl =>
    cases fl with
    | ret u => exact I.after hq
    | next => exact False.elim hq
    | brk => exact False.elim hq
    | cont => exact False.elim hq
theorem xCall (C : DefX X.prog X.w X.K X.mg X.base k x ps f fd dds F) (hr : Room j X.A) (hj : k ≤ j) (h : AV X (e :: es) ss ts fun s rs => allK rs fun ds => F (ds ++ dds) (fun d => Φ s (.own d)) fun y => R y s) (hg : Gl X x := by rfl)
    (hdb : (x == ("__debug__" : Str)) = false := by decide) (he : starEach (e :: es) X.env = (false, eval e X.env) :: starEach es X.env := by rfl) (hpl : (backTo pos (starEach es X.env)).any (·.1) = false := by rfl) : EVX X B (.Call (.Name x p) (e :: es) [] pos) ss ts Φ R := by
  intro m fx σ tv H Q hm hh kk xt
  refine ⟨fun pins s I => ?_⟩
  obtain ⟨dvs, dfl, b1, b2, b3⟩ := C.bd
  refine wpAny_Call_Name_kw (ld_glob I hg C.nm ?_ hdb)
  have ha : wA X (e :: es) σ H fun vs H1 => spX X.K F (vs ++ dvs) H1 Q fun cls d H' => WR X.K B fx σ tv ts R cls d σ H' := by
    refine h m B σ tv H _ hm hh fun s1 rs vs H1 q l1 l2 hh1 => ?_
    obtain ⟨ds, ia, hF⟩ := allK_of q
    have hpop := hh1.popA l1 hm
    refine ⟨ds ++ dds, _, _, (hh1.argsOf l1 ia hm).append (b3 H1), hF, fun d v H2 q n => kk s1 _ v H2 q (hpop.new n), fun y cls d H2 q ex xa => ?_⟩
    exact ⟨y, s1, q, xa, fun _ _ => rfl, ((hpop.ex ex).more (fun k q => hm k q) Low.self).less (fun _ _ q => q) Low.self (hpop.more (fun k q => hm k q) Low.self).vok⟩
  refine PySem.W.callWith_K (h₀ := X.base) I.ok.mod.kin C.kp (thn (ha.run pos pins s I) fun us s1 ⟨vs, H1, I1, r, q⟩ => ⟨I1.kIn, ?_⟩) he hpl
  exact run_fnX C.ok (hr.mono hj) b1 b2 (fun e' s' c => xt.tk e' s' (XE.of_call I1 (fun _ _ _ h => h) c)) I1 r q
end
end DL
namespace DL
open PySem PySem.Spec PyProof.Rows L2
section
variable {X : Cx} {fx : List Nat} {ss ts : List Slot} {Φ : List Slot → Slot → Prop} {Θ : List Slot → Bool → Prop} {e a b c l : Expr} {pos p px : Pos} {x n : Str} {Ψ : List Slot → List Slot → List El → Prop} {tg : Expr}
theorem ev_cls {C : Addr} (hm : X.mg x = some (.ref C)) (q : Φ ss (.own (.raw (.ref C)))) (hg : Gl X x := by rfl) (hd : (x == ("__debug__" : Str)) = false := by decide) : EV X (.Name x pos) ss ts Φ :=
  ev_glo hg ⟨_, .ref C, hm, rfl, fun H => by unfold RepO; exact ⟨rfl, rfl⟩⟩ q hd
theorem rep_lookup {K : PySem.W.Frag} {H : Hp} {f : Str} {d : D} : ∀ {fs : List (Str × V)} {ns : List Str} {l : List D}, fs.map (·.1) = ns → RepRs K H l (fs.map (·.2)) → (ns.zip l).lookup f = some d → ∃ v, fs.lookup f = some v ∧ RepR K H d v
  | [], _, l, e, r, h => by
    cases e
    simp at h
  | (g, v) :: fs, _, l, e, r, h => by
    cases e
    cases l with
    | nil => simp at h
    | cons d0 l =>
      unfold RepRs at r
      obtain ⟨w, ws, e1, r1, r2⟩ := r
      simp only [List.map_cons, List.cons.injEq] at e1
      obtain ⟨rfl, rfl⟩ := e1
      simp only [List.map_cons, List.zip_cons_cons, List.lookup_cons] at h ⊢
      cases q : (f == g) with
      | true =>
        rw [q] at h
        cases h
        exact ⟨v, rfl, r1⟩
      | false =>
        rw [q] at h
        exact rep_lookup rfl r2 h
def isNon : D → Bool
  | .non => true
  | _ => false
def D.noraw : D → Bool
  | .raw _ => false
  | .nam _ _ => false
  | .ar _ _ _ => false
  | _ => true
theorem not_non {K : PySem.W.Frag} {H : Hp} {d : D} {v : V} (h : RepR K H d v) (hr : d.noraw = true) : decide (v = .non) = isNon d := by
  cases d with
  | raw u => cases hr
  | ar _ _ _ => cases hr
  | nam _ _ => cases hr
  | non => rw [rep_non] at h; subst h; rfl
  | bl b => rw [rep_bl] at h; subst h; rfl
  | int i => rw [rep_int] at h; subst h; rfl
  | str x => rw [rep_str] at h; subst h; rfl
  | tup l => unfold RepR at h; obtain ⟨_, _, rfl, _⟩ := h; rfl
  | lst l => unfold RepR at h; obtain ⟨_, _, rfl, _⟩ := h; rfl
  | fz l => unfold RepR at h; obtain ⟨_, _, rfl, _⟩ := h; rfl
  | ins _ _ l => unfold RepR at h; obtain ⟨_, _, _, rfl, _⟩ := h; rfl
  | dct _ l => unfold RepR at h; obtain ⟨_, _, rfl, _⟩ := h; rfl
  | exc _ _ l => unfold RepR at h; obtain ⟨_, _, _, rfl, _⟩ := h; rfl
@[reducible] def nonK (k : Bool → Prop) (r : Slot) : Prop := match r.dd with
  | some (.raw _) => False
  | some (.ar _ _ _) => False
  | some (.nam _ _) => False
  | some .non => k true
  | some _ => k false
  | none => False
theorem nonK_of {k : Bool → Prop} {r : Slot} (h : nonK k r) : ∃ d, r.is d ∧ d.noraw = true ∧ k (isNon d) := by
  unfold nonK at h
  cases e : r.dd with
  | none => rw [e] at h; exact h.elim
  | some d =>
    rw [e] at h
    refine ⟨d, Slot.dd_is e, ?_, ?_⟩
    · cases d <;> first | rfl | exact h.elim
    · cases d <;> first | exact h | exact h.elim
theorem tIsN {j : Nat} {cp : Pos} (h : EV X a ss ts fun s r => nonK (fun t => Θ s t) r) : TV X (.Compare a [.Is] [.Constant .none j cp] pos) ss ts Θ :=
  tv_cmp2 op_isN (nobehind _ (by decide) (by decide)) (h.imp fun s1 r1 h1 => ev_non (by
    obtain ⟨d, e1, hr, q⟩ := nonK_of h1
    refine ⟨d, .non, _, e1, Slot.is_own, fun H x y rx ry Q q => ?_, q⟩
    rw [rep_non] at ry
    refine ⟨ry, ?_⟩
    rw [not_non rx hr]
    exact q))
variable {e2 : Expr} {elts : List Expr} {kk : Nat} {tpos : Pos}
end
end DL
namespace DL
open PySem PySem.Spec PyProof.Rows L2
namespace Two
open PySem.NumText PySem.Calls
def num (l : List Nat) : Nat := l.foldl (fun a c => a * 2 + (c - 48)) 0
end Two
section
variable {X : Cx} {fx : List Nat} {ss ts : List Slot} {Φ : List Slot → Slot → Prop} {Θ : List Slot → Bool → Prop} {e a b c l o : Expr} {pos p px p2 apos : Pos} {x n : Str}
@[reducible] def s1K (k : Str → Prop) : Slot → Prop
  | .own (.str x) => k x
  | _ => False
theorem s1K_of {k : Str → Prop} {r : Slot} (h : s1K k r) : ∃ x, r = .own (.str x) ∧ k x := by
  unfold s1K at h
  split at h
  · exact ⟨_, rfl, h⟩
  · exact h.elim
theorem eM1 {id : String} {name : Str} {C : Str → Str → Prop} {P : Str → Str → D → Prop} {r : V → List V → Hp → VK → Prop} (slot : PySem.Slot "str" name id) (hty : typeOf (.builtin id) = pure (.type "method_descriptor")) (hm : MtR X id r)
    (hr : ∀ (x y : Str) (H : Hp) (Q : VK), C x y → (∀ d w H', P x y d → New X.K H H' w d → Q w H') → r (.str x) [.str y] H Q)
    (h : EV X o ss ts fun s0 r0 => s1K (fun x => EV X e s0 (r0 :: ts) fun s r => s1K (fun y => C x y ∧ ∀ d, P x y d → Φ s (.own d)) r) r0)
    (hbase : attributeBase o name X.env (eval o X.env) = eval o X.env := by rfl)
    (hfew : ((backTo pos (starEach [e] X.env)).all (fun x => !x.1) && (backToKw pos (keywordEach [] X.env)).all (fun x => x.1.isSome)
      && decide ([e].length + ([] : List Keyword).length + (if ([] : List Keyword).isEmpty then 0 else 1) < 30)) = true := by rfl)
    (hline : (apos.endLine == pos.line) = true := by rfl) (hs : starEach [e] X.env = (false, eval e X.env) :: starEach [] X.env := by rfl) (hplain : (backTo pos (starEach [] X.env)).any (·.1) = false := by rfl) :
    EV X (.Call (.Attribute o name apos) [e] [] pos) ss ts Φ := ev_bm (T := "str") PySem.F.plainAttrs_str slot hty hm (h.imp fun s0 r0 h1 => by
    obtain ⟨x, rfl, h2⟩ := s1K_of h1
    exact ⟨.str x, Slot.is_own, ty_str, av_cons (h2.imp fun s r h3 => by
      obtain ⟨y, rfl, hc, q⟩ := s1K_of h3
      exact av_nil ⟨[.str y], P x y, ⟨Slot.is_own, trivial⟩, fun H v vs Q r1 r2 k => by
        obtain ⟨w, rfl, hw⟩ := reps1 r2
        rw [rep_str] at r1 hw
        subst r1 hw
        exact hr x y H Q hc k, q⟩) hs⟩) hbase hfew hline hs hplain
theorem eStarts (h : EV X o ss ts fun s0 r0 => s1K (fun x => EV X e s0 (r0 :: ts) fun s r => s1K (fun y => Φ s (.own (.bl (Txt.startswith x y)))) r) r0)
    (hbase : attributeBase o "startswith" X.env (eval o X.env) = eval o X.env := by rfl)
    (hfew : ((backTo pos (starEach [e] X.env)).all (fun x => !x.1) && (backToKw pos (keywordEach [] X.env)).all (fun x => x.1.isSome)
      && decide ([e].length + ([] : List Keyword).length + (if ([] : List Keyword).isEmpty then 0 else 1) < 30)) = true := by rfl)
    (hline : (apos.endLine == pos.line) = true := by rfl) (hs : starEach [e] X.env = (false, eval e X.env) :: starEach [] X.env := by rfl) (hplain : (backTo pos (starEach [] X.env)).any (·.1) = false := by rfl) :
    EV X (.Call (.Attribute o "startswith" apos) [e] [] pos) ss ts Φ :=
  eM1 (C := fun _ _ => True) (P := fun x y d => d = .bl (Txt.startswith x y)) PySem.F.slot_str_startswith PySem.F.type_str_startswith mt_startswith
    (fun x y H Q hc k => ⟨x, y, rfl, rfl, k _ _ H rfl (.flat o_bl)⟩)
    (h.imp fun s0 r0 h1 => by
      obtain ⟨x, rfl, h2⟩ := s1K_of h1
      exact h2.imp fun s r h3 => by
        obtain ⟨y, rfl, q⟩ := s1K_of h3
        exact ⟨trivial, fun d hd => by rw [hd]; exact q⟩) hbase hfew hline hs hplain
theorem ePart (h : EV X o ss ts fun s0 r0 => s1K (fun x => EV X e s0 (r0 :: ts) fun s r => s1K (fun y => ((y.length == 0) = false ∧ x.length ≤ 1000000) ∧ Φ s (.own (.tup [.str (Txt.partition x y).1, .str (Txt.partition x y).2.1, .str (Txt.partition x y).2.2]))) r) r0)
    (hbase : attributeBase o "partition" X.env (eval o X.env) = eval o X.env := by rfl)
    (hfew : ((backTo pos (starEach [e] X.env)).all (fun x => !x.1) && (backToKw pos (keywordEach [] X.env)).all (fun x => x.1.isSome)
      && decide ([e].length + ([] : List Keyword).length + (if ([] : List Keyword).isEmpty then 0 else 1) < 30)) = true := by rfl)
    (hline : (apos.endLine == pos.line) = true := by rfl) (hs : starEach [e] X.env = (false, eval e X.env) :: starEach [] X.env := by rfl) (hplain : (backTo pos (starEach [] X.env)).any (·.1) = false := by rfl) :
    EV X (.Call (.Attribute o "partition" apos) [e] [] pos) ss ts Φ :=
  eM1 (C := fun x y => (y.length == 0) = false ∧ x.length ≤ 1000000) (P := fun x y d => d = .tup [.str (Txt.partition x y).1, .str (Txt.partition x y).2.1, .str (Txt.partition x y).2.2]) PySem.F.slot_str_partition PySem.F.type_str_partition mt_partition
    (fun x y H Q hc k => ⟨x, y, rfl, rfl, hc.1, by rw [sizeLine_eq]; exact Nat.le_trans hc.2 (by decide), fun p hp => k _ _ _ rfl (.tup hp fun H => reps_ofStrs [_, _, _])⟩)
    (h.imp fun s0 r0 h1 => by
      obtain ⟨x, rfl, h2⟩ := s1K_of h1
      exact h2.imp fun s r h3 => by
        obtain ⟨y, rfl, hc, q⟩ := s1K_of h3
        exact ⟨hc, fun d hd => by rw [hd]; exact q⟩) hbase hfew hline hs hplain
theorem eSplit (h : EV X o ss ts fun s0 r0 => s1K (fun x => EV X e s0 (r0 :: ts) fun s r => s1K (fun y => ((y.length == 0) = false ∧ x.length ≤ 1000000) ∧ Φ s (.own (.lst ((Txt.split x y).map D.str)))) r) r0)
    (hbase : attributeBase o "split" X.env (eval o X.env) = eval o X.env := by rfl)
    (hfew : ((backTo pos (starEach [e] X.env)).all (fun x => !x.1) && (backToKw pos (keywordEach [] X.env)).all (fun x => x.1.isSome)
      && decide ([e].length + ([] : List Keyword).length + (if ([] : List Keyword).isEmpty then 0 else 1) < 30)) = true := by rfl)
    (hline : (apos.endLine == pos.line) = true := by rfl) (hs : starEach [e] X.env = (false, eval e X.env) :: starEach [] X.env := by rfl) (hplain : (backTo pos (starEach [] X.env)).any (·.1) = false := by rfl) :
    EV X (.Call (.Attribute o "split" apos) [e] [] pos) ss ts Φ :=
  eM1 (C := fun x y => (y.length == 0) = false ∧ x.length ≤ 1000000) (P := fun x y d => d = .lst ((Txt.split x y).map D.str)) PySem.F.slot_str_split PySem.F.type_str_split mt_split
    (fun x y H Q hc k => ⟨x, y, rfl, rfl, hc.1, by rw [sizeLine_eq]; exact Nat.le_trans (Nat.add_le_add_right hc.2 2) (by decide), fun p hp => k _ _ _ rfl (.lst hp fun H => reps_ofStrs _)⟩)
    (h.imp fun s0 r0 h1 => by
      obtain ⟨x, rfl, h2⟩ := s1K_of h1
      exact h2.imp fun s r h3 => by
        obtain ⟨y, rfl, hc, q⟩ := s1K_of h3
        exact ⟨hc, fun d hd => by rw [hd]; exact q⟩) hbase hfew hline hs hplain
theorem eIxS (h : EV X a ss ts fun s1 r1 => EV X b s1 (r1 :: ts) fun s r2 => s1K (fun z => i1K (fun i => ∃ c, (z.length ≤ 1000000 ∧ atI z.cps.toList i = some c) ∧ Φ s (.own (.str ⟨#[c]⟩))) r2) r1) (hs : PlainIx b := by intro _ _; rfl) : EV X (.Subscript a b pos) ss ts Φ := fun m B σ tv H Q hm hh k => by
  refine toE (pe_ix ix_str pe_w pe_w hs) ?_
  refine h m B σ tv H _ hm hh fun s1 r1 x H1 h1 hh1 => ?_
  refine h1 m B σ (x :: tv) H1 _ hm.up hh1 fun s r2 y H2 hq hh2 => ?_
  obtain ⟨z, rfl, hq⟩ := s1K_of hq
  obtain ⟨i, rfl, c, ⟨hl, hc⟩, q⟩ := i1K_of hq
  have z1 := hh2.top2 Slot.is_own
  have z2 := hh2.top Slot.is_own
  rw [rep_str] at z1
  rw [rep_int] at z2
  exact ⟨z, i, c, z1, z2, by rw [sizeLine_eq]; exact Nat.le_trans hl (by decide), hc, k s _ _ H2 q (((hh2.pop hm.up).pop hm).pushF o_str)⟩
theorem eSlTo {z : Expr} (h : EV X z ss ts fun s1 r1 => EV X b s1 (r1 :: ts) fun s r2 => s1K (fun z => i1K (fun i => z.length ≤ 1000000 ∧ Φ s (.own (.str (cutS z none (some i))))) r2) r1) : EV X (.Subscript z (.Slice none (some b) none p2) pos) ss ts Φ := fun m B σ tv H Q hm hh k => by
  refine toE (pe_slice sl_str pe_w po_none (po_some pe_w)) ?_
  refine h m B σ tv H _ hm hh fun s1 r1 x H1 h1 hh1 => ?_
  refine h1 m B σ (x :: tv) H1 _ hm.up hh1 fun s r2 y H2 hq hh2 => ?_
  obtain ⟨z, rfl, hq⟩ := s1K_of hq
  obtain ⟨i, rfl, hl, q⟩ := i1K_of hq
  have z1 := hh2.top2 Slot.is_own
  have z2 := hh2.top Slot.is_own
  rw [rep_str] at z1
  rw [rep_int] at z2
  exact ⟨i, z2, z, z1, by rw [sizeLine_eq]; exact Nat.le_trans hl (by decide), k s _ _ H2 q (((hh2.pop hm.up).pop hm).pushF o_str)⟩
theorem eSlFrom {z : Expr} (h : EV X z ss ts fun s1 r1 => EV X b s1 (r1 :: ts) fun s r2 => s1K (fun z => i1K (fun i => z.length ≤ 1000000 ∧ Φ s (.own (.str (cutS z (some i) none)))) r2) r1) : EV X (.Subscript z (.Slice (some b) none none p2) pos) ss ts Φ := fun m B σ tv H Q hm hh k => by
  refine toE (pe_slice sl_str pe_w (po_some pe_w) po_none) ?_
  refine h m B σ tv H _ hm hh fun s1 r1 x H1 h1 hh1 => ?_
  refine h1 m B σ (x :: tv) H1 _ hm.up hh1 fun s r2 y H2 hq hh2 => ?_
  obtain ⟨z, rfl, hq⟩ := s1K_of hq
  obtain ⟨i, rfl, hl, q⟩ := i1K_of hq
  have z1 := hh2.top2 Slot.is_own
  have z2 := hh2.top Slot.is_own
  rw [rep_str] at z1
  rw [rep_int] at z2
  exact ⟨i, z2, z, z1, by rw [sizeLine_eq]; exact Nat.le_trans hl (by decide), k s _ _ H2 q (((hh2.pop hm.up).pop hm).pushF o_str)⟩
end
end DL
namespace DL
open PySem PySem.Spec PyProof.Rows L2
theorem D.flats_mem : ∀ {l : List D}, D.flats l = true → ∀ d ∈ l, d.flat = true
  | [], _, d, h => nomatch h
  | e :: l, h, d, m => by
    unfold D.flats at h
    rw [Bool.and_eq_true] at h
    rcases List.mem_cons.mp m with rfl | m
    · exact h.1
    · exact D.flats_mem h.2 d m
theorem D.flats_of : ∀ {l : List D}, (∀ d ∈ l, d.flat = true) → D.flats l = true
  | [], _ => by unfold D.flats; rfl
  | e :: l, h => by
    unfold D.flats
    rw [h e List.mem_cons_self, D.flats_of fun d hd => h d (List.mem_cons_of_mem _ hd)]
    rfl
def LX : List Str := ["NoNumber", "NoTable", "Flat", "Lifted", "Dipped", "NotOne", "NoName", "NoRow", "NoChoice", "NoSaying", "NoCover", "NoText", "NoLine"]
def LS : List Str := "SlackError" :: LX
def LP : List Str := ["NoRow", "NoChoice", "NoSaying", "NoCover", "NoText", "NoLine"]
def LF : List Str := ["top", "place", "choice", "row", "column", "name"]
structure XF (K : PySem.W.Frag) (mg : Str → Option Value) : Prop where
  glo : ∀ x, x ∈ LS → mg x = some (.ref (He.ga K x))
  exc : ∀ x, x ∈ LX → ExcC K (He.ga K x)
  kit : ∀ x, x ∈ LX → ∀ y, y ∈ LX → PySem.W.kitOne K (.ref (He.ga K x)) (.ref (He.ga K y)) = some (decide (x = y))
  kitS : ∀ x, x ∈ LX → PySem.W.kitOne K (.ref (He.ga K x)) (.ref (He.ga K "SlackError")) = some true
  kitV : ∀ x, x ∈ LX → PySem.W.kitOne K (.ref (He.ga K x)) (.type "ValueError") = some true
  cau : ∀ x, x ∈ LX → PySem.W.exmOne K (.ref (He.ga K x)) (.ref (He.ga K "SlackError")) = some true
  fld : ∀ x, x ∈ LX → ∀ f, f ∈ LF → PySem.W.findIn K (.ref (He.ga K x)) f = some none
  pl : ∀ x, x ∈ LP → ExK K mg x (He.ga K x)
def obsE (eb : PySem.W.Frag → Bool) (tb : List (Str × List He.Dv)) (fa : List He.Fa) (fn : List He.DefD) (K : PySem.W.Frag) : AlT := (eb K && (obsT tb fa fn K).1, He.obsD fa fn K)
def SaysE (eb : PySem.W.Frag → Bool) (tb : List (Str × List He.Dv)) (fa : List He.Fa) (fn : List He.DefD) (K : PySem.W.Frag) : Prop := obsE eb tb fa fn K = (true, He.valD fn)
theorem SaysE.ex {eb : PySem.W.Frag → Bool} {tb : List (Str × List He.Dv)} {fa : List He.Fa} {fn : List He.DefD} {K : PySem.W.Frag} (c : SaysE eb tb fa fn K) : eb K = true ∧ SaysT tb fa fn K := by
  have c1 : (eb K && (obsT tb fa fn K).1) = true := congrArg (fun z : AlT => z.1) c
  have c2 : He.obsD fa fn K = He.valD fn := congrArg (fun z : AlT => z.2) c
  obtain ⟨h1, h2⟩ := He.ba c1
  exact ⟨h1, Prod.ext h2 c2⟩
theorem sv_consI {X : Cx} {fx : List Nat} {st : Stmt} {rest : List Stmt} {ss ts : List Slot} {E : DE} (I : List Slot → Prop) (h : S1 X fx st ss ts (E.thn I)) (k : ∀ s, I s → SV X fx rest s ts E) : SV X fx (st :: rest) ss ts E :=
  sv_cons fun B σ tv H D hh ke => h B σ tv H D hh ⟨fun s σ' H' q h' z => ke.nx s σ' H' (k s q) h' z, ke.rt, ke.bk, ke.ct⟩
theorem svx_consI {X : Cx} {B : Hp} {fx : List Nat} {st : Stmt} {rest : List Stmt} {ss ts : List Slot} {E : DE} {R : XD → List Slot → Prop} (I : List Slot → Prop) (h : S1X X B fx st ss ts (E.thn I) R) (k : ∀ s, I s → SVX X B fx rest s ts E R) : SVX X B fx (st :: rest) ss ts E R :=
  svx_cons fun σ tv H D hh ke t => h σ tv H D hh ⟨fun s σ' H' q h' z => ke.nx s σ' H' (k s q) h' z, ke.rt, ke.bk, ke.ct⟩ t
end DL
namespace DL
open PySem PySem.Spec PyProof.Rows L2
section
variable {X : Cx} {fx : List Nat} {ss ts : List Slot} {Φ : List Slot → Slot → Prop} {Θ : List Slot → Bool → Prop} {e a b c l o : Expr} {pos p px p2 apos : Pos} {x n : Str}
theorem tChI {op op' : CmpOp} {g g' : Int → Int → Bool} (ho : OpR X (compareOp op) (rI0 fun i j => .bl (g i j))) (ho' : OpR X (compareOp op') (rI0 fun i j => .bl (g' i j)))
    (h : EV X a ss ts fun s1 r1 => EV X b s1 (r1 :: ts) fun s2 r2 => i2K (fun i j => (g i j = true → EV X c s2 (r2 :: r1 :: ts) fun s3 r3 => i1K (fun k => Θ s3 (g' j k)) r3) ∧ (g i j = false → Θ s2 false)) r1 r2) (hlm : lastMarks [op, op'] [b, c] = false) : TV X (.Compare a [op, op'] [b, c] pos) ss ts Θ := fun m B σ tv H Q hm hh k => by
  refine toT (pt_chain ho ho' pe_w pe_w pe_w hlm) ?_
  refine h m B σ tv H _ hm hh fun s1 r1 x H1 h1 hh1 => ?_
  refine h1 m B σ (x :: tv) H1 _ hm.up hh1 fun s2 r2 y H2 hq hh2 => ?_
  obtain ⟨i, j, rfl, rfl, q1, q2⟩ := i2K_of hq
  have z1 := hh2.top2 Slot.is_own
  have z2 := hh2.top Slot.is_own
  rw [rep_int] at z1 z2
  refine ⟨i, j, z1, z2, g i j, rfl, ?_⟩
  cases e : g i j with
  | true =>
    rw [if_pos rfl]
    refine q1 e m B σ (y :: x :: tv) H2 _ hm.up.up hh2 fun s3 r3 u H3 h3 hh3 => ?_
    obtain ⟨kk, rfl, q⟩ := i1K_of h3
    have z3 := hh3.top Slot.is_own
    rw [rep_int] at z3
    exact ⟨j, kk, z2, z3, _, rfl, k s3 _ H3 q (((hh3.pop hm.up.up).pop hm.up).pop hm)⟩
  | false =>
    rw [if_neg (by decide)]
    exact ⟨false, rfl, k s2 _ H2 (q2 e) ((hh2.pop hm.up).pop hm)⟩
theorem eLenS (hm : X.mg "len" = none) (h : EV X e ss ts fun s r => s1K (fun x => x.length ≤ 1000000 ∧ Φ s (.own (.int ((x.length : Nat) : Int)))) r) (hg : Gl X "len" := by rfl)
    (he : starEach [e] X.env = (false, eval e X.env) :: starEach [] X.env := by rfl) : EV X (.Call (.Name "len" p) [e] [] pos) ss ts Φ :=
  ev_lenS hg hm (h.imp fun s r h => by
    obtain ⟨x, rfl, hl, q⟩ := s1K_of h
    exact ⟨x, Slot.is_own, hl, q⟩) he
theorem eEq (h : EV X a ss ts fun s1 r1 => EV X b s1 (r1 :: ts) fun s r2 => eq2K (fun t => Φ s (.own (.bl t))) r1 r2) : EV X (.Compare a [.Eq] [b] pos) ss ts Φ := ev_eq (h.imp fun s1 r1 h1 => h1.imp fun s r2 h2 => eq2K_of h2)
end
theorem nd1 {p : Prop} [Decidable p] {q : Prop} (h : p) (z : (!decide p) = true) : q := by rw [decide_eq_true h] at z; cases z
theorem dq1 {x : D} {q : Prop} (z : (!deq x x) = true) : q := by rw [deq_self] at z; cases z
end DL
namespace DL
open PySem PySem.Spec PyProof.Rows L2
structure BIn (K : PySem.W.Frag) (mg : Str → Option Value) (x : Str) (B : Addr) : Prop where
  nm : mg x = some (.ref B)
  rd : PySem.W.readsIn K B (.type "type") = true
  ga : PySem.W.specialIn K (.ref B) "__getattribute__" = some (some (.builtin "type.__getattribute__"))
  fd : PySem.W.findCls K (.ref B) (.type "type") "__init__" = some (.val (.builtin "ValueError.__init__"))
structure ExI (P : Program) (w : World) (K : PySem.W.Frag) (mg : Str → Option Value) (base : Heap) (x : Str) (C : Addr) (ps : List Str) (sp : L2.Sp) : Prop where
  ox : OexC K C
  nm : mg x = some (.ref C)
  ini : ∃ (fI : Addr) (fd : FuncData), PySem.W.findIn K (.ref C) "__init__" = some (some (.ref fI)) ∧ PySem.W.typeIn K (.ref fI) = some (.type "function") ∧ FnOk P w K mg base CX0 1 fI fd ps sp ∧ Binds K fd ps []
def LI : List Str := ["NoNumber", "NoTable", "Flat", "Lifted", "Dipped", "NotOne", "NoName"]
end DL
set_option maxHeartbeats 2000000
set_option maxHeartbeats 2000000
set_option maxHeartbeats 2000000
namespace DL
open PySem PySem.Spec PyProof.Rows HotX L2 L2H
structure ExH (P : Program) (w : World) (K : PySem.W.Frag) (mg : Str → Option Value) (base : Heap) (x : Str) (C : Addr) (ps : List Str) (sp : L2.Sp) : Prop where
  ox : OexC K C
  nm : mg x = some (.ref C)
  ini : ∃ (fI : Addr) (fd : FuncData), PySem.W.findIn K (.ref C) "__init__" = some (some (.ref fI)) ∧ PySem.W.typeIn K (.ref fI) = some (.type "function") ∧ FnH P w K mg base CX0 1 fI fd ps sp ∧ Binds K fd ps []
end DL
set_option maxHeartbeats 2000000
namespace DL
open PySem PySem.Spec PyProof.Rows HotX L2 L2H
def clsBody (s : Stmt) : List Stmt := match s with
  | .ClassDef _ _ _ b _ _ _ _ _ _ _ => b
  | _ => []
def methOf (s : Stmt) (i : Nat) : Stmt := (clsBody s).getD i (.Pass ⟨0, 0, 0, 0⟩)
end DL
namespace DL
open PySem PySem.Spec PyProof.Rows L2
theorem putF_new {f : Str} {y : V} : ∀ {fs : List (Str × V)}, f ∉ fs.map (·.1) → putF f y fs = fs ++ [(f, y)]
  | [], _ => rfl
  | (g, x) :: fs, h => by
    have n : g ≠ f := fun z => h (by rw [z]; exact List.mem_cons_self)
    unfold putF
    rw [if_neg n, putF_new fun z => h (List.mem_cons_of_mem _ z)]
    rfl
section
variable {X : Cx} {fx : List Nat} {ss ts : List Slot} {Φ : List Slot → Slot → Prop} {e o : Expr} {es : List Expr} {pos p p' px apos : Pos} {x y f m : Str} {E : DE} {C : Addr}
theorem s1_fld {i : Nat} {ns : List Str} {l0 : List D} (hN : X.N[i]? = some x) (hv : Vis X.env.scope x) (c : Cls X.K C) (n : NoAttr X.K C f) (hn : f ∉ ns) (hl0 : ns.length < 1000)
    (h : EV X e ss ts fun s r => ∃ l d, s[i]? = some (.own (.ins C ns l)) ∧ r = .own d ∧ noView (.v i) ts = true ∧ E.nx ((s.map (kill (.v i))).set i (.own (.ins C (ns ++ [f]) (l ++ [d])))))
    (hd : (x == ("__debug__" : Str)) = false := by decide) (hcd : (x == ("__classdict__" : Str)) = false := by decide) (hs : swapsWith e (some (.Attribute (.Name x px) f p')) pos.line X.env = pure false := by rfl) : S1 X fx (.Assign [.Attribute (.Name x px) f p'] e pos) ss ts E := fun B σ tv H D hh k => by
  refine toS (ps_fld (pe_var hN hv hd hcd) pe_w hs) ?_
  refine h (fun k => k < ts.length) B σ tv H _ Low.self hh fun s r v H1 ⟨l, d, hi, er, hv1, q⟩ ⟨fp1, h1⟩ => ?_
  subst er
  obtain ⟨fp2, F2, h2, s2, r2, n2, o2, b2, _⟩ := h1.take Low.self
  obtain ⟨w, e1, e2⟩ := h2.var i _ hi
  unfold RepO at e2
  obtain ⟨a, dx, fs, G, rfl, ea, ed, en, eF, rl⟩ := e2
  have ex : σ[i]? = some (some (.ref a)) := by
    cases z : σ[i]? with
    | none => rw [z] at e1; cases e1
    | some y => rw [z] at e1; have z2 : y = some (.ref a) := e1; rw [z2]
  have lf : fs.length = ns.length := by rw [← en, List.length_map]
  refine ⟨.ref a, ex, a, C, dx, fs, rfl, ea, c, n, by omega, ?_⟩
  rw [putF_new (by rw [en]; exact hn)]
  have nd := h2.nod (.v i)
  rw [eF] at nd
  have nd1 := List.nodup_cons.mp nd
  have nd2 := List.nodup_cons.mp nd1.2
  have tk : TK H1 (upd H1 a (.ins C dx (fs ++ [(f, v)]))) := TK.upd ea fun z => z
  have ha : ∀ b, b ∈ G ++ F2 → b ≠ a := fun b hb z => by
    subst z
    rcases List.mem_append.mp hb with hb | hb
    · exact nd1.1 (List.mem_cons_of_mem _ hb)
    · exact o2 b hb (.v i) (by rw [eF]; exact List.mem_cons_self)
  have dxa : dx ≠ a := fun z => nd1.1 (by rw [z]; exact List.mem_cons_self)
  have h3 := h2.change (v := .ref a) (F' := a :: dx :: (G ++ F2)) (d' := .ins C (ns ++ [f]) (l ++ [d])) (by rw [ex]; rfl) (getElem?_lt hi) tk (fun b o hb e => by
      rw [upd_ne (fun z => hb (by rw [z, eF]; exact List.mem_cons_self))]
      exact e) (by
      unfold RepO
      refine ⟨a, dx, fs ++ [(f, v)], G ++ F2, rfl, upd_same, by rw [upd_ne dxa]; exact ed, by rw [List.map_append, en]; rfl, rfl, ?_⟩
      rw [List.map_append]
      exact (rl.frame tk fun b hb => upd_ne (ha b (List.mem_append_left _ hb))).append (RepOs.one (r2.frame tk fun b hb => upd_ne (ha b (List.mem_append_right _ hb))))) (by
      refine List.nodup_cons.mpr ⟨fun z => ?_, List.nodup_cons.mpr ⟨fun z => ?_, List.nodup_append.mpr ⟨nd2.2, n2, fun b hb c hc z => ?_⟩⟩⟩
      · rcases List.mem_cons.mp z with z | z
        · exact dxa z.symm
        · exact ha a z rfl
      · rcases List.mem_append.mp z with z | z
        · exact nd2.1 z
        · exact o2 dx z (.v i) (by rw [eF]; exact List.mem_cons_of_mem _ List.mem_cons_self)
      · subst z
        exact o2 b hc (.v i) (by rw [eF]; exact List.mem_cons_of_mem _ (List.mem_cons_of_mem _ hb))) (fun b hb => by
      rw [eF]
      rcases List.mem_cons.mp hb with rfl | hb
      · exact .inl List.mem_cons_self
      · rcases List.mem_cons.mp hb with rfl | hb
        · exact .inl (List.mem_cons_of_mem _ List.mem_cons_self)
        · rcases List.mem_append.mp hb with hb | hb
          · exact .inl (List.mem_cons_of_mem _ (List.mem_cons_of_mem _ hb))
          · exact .inr ⟨o2 b hb, b2 b hb⟩) hv1
  exact k.nx _ σ _ q ⟨_, h3⟩ fun _ _ => rfl
end
structure MethAt (P : Program) (w : World) (K : PySem.W.Frag) (mg : Str → Option Value) (base : Heap) (k : Nat) (C : Addr) (m : Str) (ps : List Str) (f : Addr) (fd : FuncData) (dds : List D) (F : List D → (D → Prop) → Prop) : Prop where
  ok : FnOk P w K mg base CX0 k f fd ps (spP K F)
  cl : Cls K C
  me : Meth K C m f
  bd : ∃ (dvs : List V) (dfl : List Value), Binds K fd ps dfl ∧ Vals dvs dfl ∧ ∀ H, RepRs K H dds dvs
structure MakeAt (P : Program) (w : World) (K : PySem.W.Frag) (mg : Str → Option Value) (base : Heap) (k : Nat) (x : Str) (C : Addr) (ps : List Str) (f : Addr) (fd : FuncData) (F : D → List D → (D → D → Prop) → Prop) : Prop where
  ok : FnOk P w K mg base CX0 k f fd ps (spI K F)
  mkr : Mk K C f
  nm : mg x = some (.ref C)
  bd : Binds K fd ps []
theorem held_self {K : PySem.W.Frag} {H : Hp} {C x dx : Addr} {ds : List D} {vs : List V} (h : RepRs K H ds vs) (n1 : H x = none) (n2 : H dx = none) (ne : dx ≠ x) : Held K (fun k => k < 0) H (upd (upd H dx (.own x)) x (.ins C dx [])) ((V.ref x :: vs).map some) (.own (.ins C [] []) :: ds.map Slot.par) [] [] := by
  have e1 : Ex H (upd (upd H dx (.own x)) x (.ins C dx [])) := (Ex.new n2).trans (Ex.new (by rw [upd_ne (Ne.symm ne)]; exact n1))
  refine ⟨fun o => if o = .v 0 then [x, dx] else [], e1, by simp [h.length], rfl, Low.self, fun i s e => ?_, (fun k s e => by simp at e), fun o o' a h1 h2 => ?_, fun o => ?_, fun o a h1 => ?_, fun o a h1 => ?_⟩
  · cases i with
    | zero =>
      cases e
      refine ⟨.ref x, rfl, ?_⟩
      show RepO K _ _ _ (if (Own.v 0 = Own.v 0) then [x, dx] else [])
      rw [if_pos rfl]
      unfold RepO
      exact ⟨x, dx, [], [], rfl, upd_same, by rw [upd_ne ne, upd_same], rfl, rfl, by unfold RepOs; exact ⟨rfl, rfl⟩⟩
    | succ i =>
      rw [List.getElem?_cons_succ, List.getElem?_map] at e
      cases q : ds[i]? with
      | none => rw [q] at e; cases e
      | some d =>
        rw [q] at e
        have e2 : Slot.par d = s := Option.some.inj e
        subst e2
        obtain ⟨w, e3, e4⟩ := h.get q
        refine ⟨w, ?_, e4⟩
        rw [List.getElem?_map, List.getElem?_cons_succ, e3]
        rfl
  · by_cases c1 : o = .v 0
    · by_cases c2 : o' = .v 0
      · rw [c1, c2]
      · rw [if_neg c2] at h2; cases h2
    · rw [if_neg c1] at h1; cases h1
  · split
    · simp only [List.nodup_cons, List.mem_singleton, List.not_mem_nil, not_false_eq_true, List.nodup_nil, and_true]
      exact Ne.symm ne
    · exact List.nodup_nil
  · split at h1
    · rcases List.mem_cons.mp h1 with rfl | h1
      · exact n1
      · rw [List.mem_singleton.mp h1]; exact n2
    · cases h1
  · split at h1
    · rcases List.mem_cons.mp h1 with rfl | h1
      · exact ⟨_, upd_same, fun z => z⟩
      · rw [List.mem_singleton.mp h1]
        exact ⟨.own x, by rw [upd_ne ne, upd_same], fun z => z⟩
    · cases h1
section
variable {X : Cx} {fx : List Nat} {ss ts : List Slot} {Φ : List Slot → Slot → Prop} {e o : Expr} {es : List Expr} {pos p p' px apos : Pos} {x y f m : Str} {E : DE} {C : Addr} {k j : Nat} {ps : List Str} {fa : Addr} {fd : FuncData} {dds : List D}
theorem cMake {F : D → List D → (D → D → Prop) → Prop} (M : MakeAt X.prog X.w X.K X.mg X.base k x C ps fa fd F) (hr : Room j X.A) (hj : k + 1 ≤ j)
    (h : AV X (e :: es) ss ts fun s rs => allK rs fun ds => F (.ins C [] []) ds fun d' d => d = .non ∧ Φ s (.own d')) (hg : Gl X x := by rfl)
    (hdb : (x == ("__debug__" : Str)) = false := by decide) (he : starEach (e :: es) X.env = (false, eval e X.env) :: starEach es X.env := by rfl) (hpl : (backTo pos (starEach es X.env)).any (·.1) = false := by rfl) : EV X (.Call (.Name x p) (e :: es) [] pos) ss ts Φ := fun m B σ tv H Q hm hh kk => by
  refine toE (pe_make (dvs := []) M.mkr M.ok (hr.mono hj) hg M.nm M.bd .nil pass0 pa_w hdb he hpl) ?_
  refine h m B σ tv H _ hm hh fun s rs vs H1 q l1 l2 hh1 => ?_
  obtain ⟨ds, ia, hF⟩ := allK_of q
  have hpop := hh1.popA l1 hm
  have rr := hh1.argsOf l1 ia hm
  intro x dx n1 n2 ne
  rw [List.append_nil]
  refine ⟨H1, _, held_self rr n1 n2 ne, .ins C [] [], ds, _, rfl, hF, fun d' d ⟨e1, hk⟩ r H2 ⟨fp, h2⟩ => ?_⟩
  subst e1
  obtain ⟨w, w1, w2⟩ := h2.top
  cases w1
  unfold RepO at w2
  refine ⟨w2.1, ?_⟩
  obtain ⟨u, u1, u2⟩ := h2.var 0 _ rfl
  cases u1
  exact kk s _ _ H2 hk (hpop.new ⟨h2.base, _, u2, h2.nod _, fun a ha => h2.out _ a ha⟩)
@[reducible] def insK (C : Addr) (k : List Str → List D → Prop) : Slot → Prop
  | .own (.ins C' ns l) => C' = C ∧ k ns l
  | .par (.ins C' ns l) => C' = C ∧ k ns l
  | .view _ (.ins C' ns l) => C' = C ∧ k ns l
  | _ => False
theorem insK_of {k : List Str → List D → Prop} {r : Slot} (h : insK C k r) : ∃ ns l, r.is (.ins C ns l) ∧ k ns l := by
  unfold insK at h
  split at h
  · obtain ⟨rfl, h⟩ := h; exact ⟨_, _, Slot.is_own, h⟩
  · obtain ⟨rfl, h⟩ := h; exact ⟨_, _, Slot.is_par, h⟩
  · obtain ⟨rfl, h⟩ := h; exact ⟨_, _, Slot.is_view, h⟩
  · exact h.elim
theorem no_lookup {K : PySem.W.Frag} {f : Str} : ∀ {fs : List (Str × V)} {ns : List Str}, fs.map (·.1) = ns → f ∉ ns → fs.lookup f = none
  | [], _, _, _ => rfl
  | (g, v) :: fs, _, e, h => by
    subst e
    have n : f ≠ g := fun z => h (by rw [z]; exact List.mem_cons_self)
    rw [List.lookup_cons]
    have : (f == g) = false := by simpa using n
    rw [this]
    exact no_lookup (K := K) rfl fun z => h (List.mem_cons_of_mem _ z)
theorem cMeth {F : List D → (D → Prop) → Prop} (M : MethAt X.prog X.w X.K X.mg X.base k C m ps fa fd dds F) (hr : Room j X.A) (hj : k ≤ j) {pl : Sem Bool}
    (h : EV X o ss ts fun s0 r0 => insK C (fun ns l => m ∉ ns ∧ AV X (e :: es) s0 (r0 :: ts) fun s rs => allK rs fun ds => F (.ins C ns l :: (ds ++ dds)) fun d => Φ s (.own d)) r0)
    (hst : starEach (e :: es) X.env = (false, eval e X.env) :: starEach es X.env := by rfl) (hpl : (backTo pos (starEach es X.env)).any (·.1) = false := by rfl)
    (ht : eval (.Call (.Attribute o m apos) (e :: es) [] pos) X.env = (do
      let ov ← eval o X.env
      standAt apos.atName
      let (f, first) ← holding [ov] (getMethod ov m pl)
      callWith pos f first (backTo pos (starEach (e :: es) X.env)) (backToKw pos (keywordEach [] X.env))) := by rfl) : EV X (.Call (.Attribute o m apos) (e :: es) [] pos) ss ts Φ := fun mm B σ tv H Q hm hh kk => by
  obtain ⟨dvs, dfl, b1, b2, b3⟩ := M.bd
  refine toE (pe_meth pe_w M.cl M.me M.ok (hr.mono hj) b1 b2 pass0 pa_w hst hpl ht) ?_
  refine h mm B σ tv H _ hm hh fun s0 r0 v H1 h1 hh1 => ?_
  obtain ⟨ns, l, i0, nm, h2⟩ := insK_of h1
  have z := hh1.top i0
  unfold RepR at z
  obtain ⟨a, dx, fs, rfl, ea, en, _⟩ := z
  refine ⟨a, dx, fs, rfl, ea, no_lookup (K := X.K) en nm, ?_⟩
  refine h2 mm B σ (.ref a :: tv) H1 _ hm.up hh1 fun s rs vs H2 q l1 l2 hh2 => ?_
  obtain ⟨ds, ia, hF⟩ := allK_of q
  have hp := hh2.popA l1 hm.up
  have rr : RepRs X.K H2 (.ins C ns l :: (ds ++ dds)) (.ref a :: (vs ++ dvs)) := reps_cons (hp.top i0) ((hh2.argsOf l1 ia hm.up).append (b3 H2))
  exact spP_use rr hF fun d u H3 hk n => kk s _ u H3 hk ((hp.pop hm).new n)
theorem cMeth0 {F : List D → (D → Prop) → Prop} (M : MethAt X.prog X.w X.K X.mg X.base k C m ps fa fd dds F) (hr : Room j X.A) (hj : k ≤ j) {pl : Sem Bool}
    (h : EV X o ss ts fun s0 r0 => insK C (fun ns l => m ∉ ns ∧ F (.ins C ns l :: dds) fun d => Φ s0 (.own d)) r0)
    (ht : eval (.Call (.Attribute o m apos) [] [] pos) X.env = (do
      let ov ← eval o X.env
      standAt apos.atName
      let (f, first) ← holding [ov] (getMethod ov m pl)
      callWith pos f first (backTo pos (starEach [] X.env)) (backToKw pos (keywordEach [] X.env))) := by rfl) : EV X (.Call (.Attribute o m apos) [] [] pos) ss ts Φ := fun mm B σ tv H Q hm hh kk => by
  obtain ⟨dvs, dfl, b1, b2, b3⟩ := M.bd
  refine toE (pe_meth0 pe_w M.cl M.me M.ok (hr.mono hj) b1 b2 pass0 ht) ?_
  refine h mm B σ tv H _ hm hh fun s0 r0 v H1 h1 hh1 => ?_
  obtain ⟨ns, l, i0, nm, hF⟩ := insK_of h1
  have z0 := hh1.top i0
  have z := z0
  unfold RepR at z
  obtain ⟨a, dx, fs, rfl, ea, en, _⟩ := z
  refine ⟨a, dx, fs, rfl, ea, no_lookup (K := X.K) en nm, ?_⟩
  show spP X.K F ([.ref a] ++ dvs) H1 Q E0
  exact spP_use (reps_cons z0 (b3 H1)) hF fun d u H3 hk n => kk s0 _ u H3 hk ((hh1.pop hm).new n)
@[reducible] def fldK (C : Addr) (k : List Str → List D → (D → Slot) → Prop) : Slot → Prop
  | .par (.ins C' ns l) => C' = C ∧ k ns l Slot.par
  | .view o (.ins C' ns l) => C' = C ∧ k ns l (Slot.view o)
  | _ => False
theorem eFld (c : Cls X.K C) (n : NoAttr X.K C f) (h : EV X o ss ts fun s r => fldK C (fun ns l mk => ∃ d, (ns.zip l).lookup f = some d ∧ Φ s (mk d)) r) (hb : attributeBase o f X.env (eval o X.env) = eval o X.env := by rfl) : EV X (.Attribute o f pos) ss ts Φ := fun mm B σ tv H Q hm hh kk => by
  refine toE (pe_fld pe_w hb) ?_
  refine h mm B σ tv H _ hm hh fun s r v H1 h1 ⟨fp, hf⟩ => ?_
  have slot := hf.top
  have key : ∀ (HR : Hp) ns l, RepR X.K HR (.ins C ns l) v → Ex HR H1 → ∀ d, (ns.zip l).lookup f = some d → (∀ w, RepR X.K HR d w → Q w H1) → ∃ a C dx fs u, v = .ref a ∧ H1 a = some (.ins C dx fs) ∧ Cls X.K C ∧ NoAttr X.K C f ∧ fs.lookup f = some u ∧ Q u H1 := fun HR ns l rr ex d lk fin => by
    unfold RepR at rr
    obtain ⟨a, dx, fs, rfl, ea, en, rl⟩ := rr
    obtain ⟨u, lu, ru⟩ := rep_lookup en rl lk
    exact ⟨a, C, dx, fs, u, rfl, ex _ _ ea, c, n, lu, fin u ru⟩
  cases r with
  | no => exact h1.elim
  | own d => exact h1.elim
  | par d =>
    cases d with
    | ins C' ns l =>
      obtain ⟨rfl, d, lk, q⟩ := h1
      obtain ⟨w, ew, rw'⟩ := slot
      cases ew
      exact key B ns l rw' hf.base d lk fun u ru => kk s _ u H1 q ⟨_, (hf.pop hm).pushV (o := .t ts.length) (fun _ z => nomatch z) ⟨u, rfl, ru⟩⟩
    | _ => exact h1.elim
  | view ow d =>
    cases d with
    | ins C' ns l =>
      obtain ⟨rfl, d, lk, q⟩ := h1
      obtain ⟨ok, w, ew, rw'⟩ := slot
      cases ew
      exact key _ ns l rw' restr_ex d lk fun u ru => kk s _ u H1 q ⟨_, (hf.pop hm).pushV (o := .t ts.length) (fun _ z => nomatch z) ⟨ok, u, rfl, ru⟩⟩
    | _ => exact h1.elim
end
end DL
namespace DL
open PySem PySem.Spec PyProof.Rows L2
theorem RepOs.split {K : PySem.W.Frag} {H : Hp} : ∀ {ds : List D} {vs : List V} {G : List Addr} (j : Nat) {d : D}, RepOs K H ds vs G → ds[j]? = some d → ∃ G1 F G2 v, G = G1 ++ (F ++ G2) ∧ vs[j]? = some v ∧ RepO K H d v F ∧ RepOs K H (ds.take j) (vs.take j) G1 ∧ RepOs K H (ds.drop (j + 1)) (vs.drop (j + 1)) G2
  | [], _, _, j, d, _, e => by simp at e
  | d0 :: ds, vs, G, 0, d, r, e => by
    cases e
    unfold RepOs at r
    obtain ⟨w, ws, F1, F2, rfl, rfl, r1, r2⟩ := r
    exact ⟨[], F1, F2, w, rfl, rfl, r1, by unfold RepOs; exact ⟨rfl, rfl⟩, r2⟩
  | d0 :: ds, vs, G, j + 1, d, r, e => by
    unfold RepOs at r
    obtain ⟨w, ws, F1, F2, rfl, rfl, r1, r2⟩ := r
    obtain ⟨G1, F, G2, v, rfl, e2, r3, r4, r5⟩ := RepOs.split (ds := ds) j r2 (by simpa using e)
    refine ⟨F1 ++ G1, F, G2, v, by simp, by simpa using e2, r3, ?_, by simpa using r5⟩
    rw [List.take_succ_cons, List.take_succ_cons]
    unfold RepOs
    exact ⟨w, _, F1, G1, rfl, rfl, r1, r4⟩
end DL
set_option maxHeartbeats 2000000
namespace DL
open PySem PySem.Spec PyProof.Rows L2
def stepB (r : Addr) (st : Nat × List Addr) : Nat × List Addr := match Nat.testBit st.1 r with
  | true => st
  | false => (st.1 ||| (1 <<< r), r :: st.2)
def growB (g : Addr → Option Obj) : List Addr → Nat × List Addr → Nat × List Addr
  | [], st => st
  | a :: as, st => growB g as (match g a with
    | some o => (He.refsD o).foldr stepB st
    | none => st)
def asB (g : Addr → Option Obj) : Nat → Nat × List Addr × List Addr
  | 0 => (1 <<< mainGlobals, [mainGlobals], [mainGlobals])
  | n + 1 => match asB g n with
    | (m, all, fr) => match growB g fr (m, []) with
      | (m', new) => (m', new ++ all, new)
end DL
namespace DL
open PySem PySem.Spec PyProof.Rows L2
@[reducible] def rowD (r : List Rat) : D := .lst (r.map fq)
@[reducible] def tabD (R : List (List Rat)) : D := .lst (R.map rowD)
structure Tb (m : Nat) (R : List (List Rat)) : Prop where
  one : 1 ≤ R.length
  most : R.length ≤ m
  sq : ∀ r, r ∈ R → r.length = R.length
  sz : ∀ r, r ∈ R → ∀ x, x ∈ r → Sz 50 x
theorem sz_int {z : Int} {b : Nat} (h : z.natAbs < 2 ^ (b + 1)) : Sz (b + 1) ((z : Int) : Rat) := ⟨by rw [Rat.num_intCast]; exact h, by rw [Rat.den_intCast]; exact Nat.one_lt_two_pow (Nat.succ_ne_zero b)⟩
theorem ixN_of {n i : Nat} (h : i < n) : ixN n (i : Int) = some i := by
  unfold ixN
  rw [if_pos (by omega), if_pos (by omega)]
  simp
theorem fq_is {p q a b : Int} (hq : q ≠ 0) (hb : 0 < b) (hg : Int.gcd a b = 1) (e : p * b = a * q) : fq (Rat.divInt p q) = .tup [.int a, .int b] := by
  have e1 : Rat.divInt p q = Rat.divInt a b := (Rat.divInt_eq_divInt_iff hq (by omega)).mpr e
  have e2 : (Rat.divInt a b).num = a := by
    rw [lowest_num (by omega), if_neg (by omega), hg]
    simp
  have e3 : ((Rat.divInt a b).den : Int) = b := by
    rw [lowest_den (by omega), if_neg (by omega), hg]
    simp
  unfold fq
  rw [e1, e2, e3]
end DL
namespace DL
open PySem PySem.Spec PyProof.Rows L2
section
variable {X : Cx} {ss ts : List Slot} {l : Expr} {p pos tpos : Pos} {elts : List Expr} {kk : Nat} {Ψ : List Slot → List Slot → List El → Prop}
theorem wEnumV (hm : X.mg "enumerate" = none) (h : EV X l ss ts fun s r => d1K (fun d => ∃ ds, d = .lst ds ∧ Ψ s [r] (ds.zipIdx.map fun p => .two (.own (.int ((p.2 : Nat) : Int))) (sub ts.length r p.1))) r) (hg : Gl X "enumerate" := by rfl)
    (hs : starEach [l] X.env = [(false, eval l X.env)] := by rfl) : IV X (.Tuple elts kk tpos) (.Call (.Name "enumerate" p) [l] [] pos) ss ts Ψ :=
  iv_enum hg hm (h.imp fun s r h => by
    obtain ⟨d, e, ds, rfl, q⟩ := d1K_of h
    exact ⟨ds, e, q⟩) hs
theorem els_enumV {α : Type} {l : List α} {f : α → D} {g : D → Slot} {i : Nat} {el : El} (h : ((l.map f).zipIdx.map fun p => El.two (.own (.int ((p.2 : Nat) : Int))) (g p.1))[i]? = some el) : ∃ x, l[i]? = some x ∧ el = .two (.own (.int (i : Int))) (g (f x)) := by
  rw [List.getElem?_map, List.getElem?_zipIdx, List.getElem?_map] at h
  cases e : l[i]? with
  | none => rw [e] at h; cases h
  | some x =>
    rw [e] at h
    refine ⟨x, rfl, ?_⟩
    have := (Option.some.inj h).symm
    simpa using this
end
@[reducible] def tblD (C : Addr) (R : List (List Rat)) : D := .ins C ["kept"] [tabD R]
structure Sq (R : List (List Rat)) : Prop where
  one : 1 ≤ R.length
  most : R.length ≤ 5
  sq : ∀ r, r ∈ R → r.length = R.length
def colQ (R : List (List Rat)) (j : Nat) : List Rat := R.map fun r => r.getD j 0
def transQ (R : List (List Rat)) : List (List Rat) := (List.range R.length).map (colQ R)
theorem Sq.trans {R : List (List Rat)} (h : Sq R) : Sq (transQ R) := by
  have e : (transQ R).length = R.length := by unfold transQ; rw [List.length_map, List.length_range]
  refine ⟨by rw [e]; exact h.one, by rw [e]; exact h.most, fun r hr => ?_⟩
  obtain ⟨j, _, rfl⟩ := List.mem_map.mp hr
  rw [e]
  unfold colQ
  rw [List.length_map]
end DL
namespace DL
open PySem PySem.Spec PyProof.Rows L2
structure MethX (P : Program) (w : World) (K : PySem.W.Frag) (mg : Str → Option Value) (base : Heap) (k : Nat) (C : Addr) (m : Str) (ps : List Str) (f : Addr) (fd : FuncData) (dds : List D) (F : FX) : Prop where
  ok : FnOk P w K mg base (L2.CX P w) k f fd ps (spX K F)
  cl : Cls K C
  me : Meth K C m f
  bd : ∃ (dvs : List V) (dfl : List Value), Binds K fd ps dfl ∧ Vals dvs dfl ∧ ∀ H, RepRs K H dds dvs
theorem MethX.plain {P : Program} {w : World} {K : PySem.W.Frag} {mg : Str → Option Value} {base : Heap} {k : Nat} {C : Addr} {m : Str} {ps : List Str} {f : Addr} {fd : FuncData} {dds : List D} {F : FX} (M : MethX P w K mg base k C m ps f fd dds F) : MethAt P w K mg base k C m ps f fd dds fun ds k => F ds k fun _ => False :=
  ⟨fnOk_plain M.ok, M.cl, M.me, M.bd⟩
end DL
namespace DL
open PySem PySem.Spec PyProof.Rows L2
section
variable {X : Cx} {B : Hp} {e a b : Expr} {es rest : List Expr} {ss ts : List Slot} {Ω : List Slot → List Slot → Prop} {Φ : List Slot → Slot → Prop} {R : XD → List Slot → Prop} {x : Str} {p pos : Pos} {k j : Nat} {f : Addr} {fd : FuncData} {ps : List Str} {dds : List D}
theorem EVX.imp {Φ' : List Slot → Slot → Prop} (h : EVX X B a ss ts Φ' R) (i : ∀ s r, Φ' s r → Φ s r) : EVX X B a ss ts Φ R := fun m fx σ tv H Q hm hh k xt => h m fx σ tv H Q hm hh (fun s r v H' q h' => k s r v H' (i s r q) h') xt
end
theorem reps_bls {K : PySem.W.Frag} {H : Hp} : ∀ {bs : List Bool} {vs : List V}, RepRs K H (bs.map D.bl) vs → vs = bs.map V.bl
  | [], _, h => by rw [List.map_nil] at h; unfold RepRs at h; exact h
  | b :: bs, _, h => by
    rw [List.map_cons] at h
    unfold RepRs at h
    obtain ⟨w, ws, rfl, h1, h2⟩ := h
    rw [rep_bl] at h1
    rw [h1, reps_bls h2]
    rfl
section
variable {X : Cx} {ss ts : List Slot} {e : Expr} {p pos : Pos} {Φ : List Slot → Slot → Prop}
theorem eAll (hm : X.mg "all" = none) (hc : X.calm = true) (h : EV X e ss ts fun s r => ∃ bs : List Bool, r = .own (.lst (bs.map D.bl)) ∧ Φ s (.own (.bl (bs.all id)))) (hg : Gl X "all" := by rfl)
    (he : starEach [e] X.env = (false, eval e X.env) :: starEach [] X.env := by rfl) (hpl : (backTo pos (starEach [] X.env)).any (·.1) = false := by rfl) : EV X (.Call (.Name "all" p) [e] [] pos) ss ts Φ :=
  ev_callB (cr_all hc) hg hm (by decide +kernel) (av_cons (h.imp fun s r ⟨bs, e1, q⟩ => av_nil ⟨[.lst (bs.map D.bl)], fun d => d = .bl (bs.all id), ⟨by rw [e1]; exact Slot.is_own, trivial⟩, fun H vs Q rr k => by
    obtain ⟨v, rfl, hv⟩ := reps1 rr
    unfold RepR at hv
    obtain ⟨a, ws, rfl, h1, h2⟩ := hv
    rw [reps_bls h2] at h1
    exact ⟨a, bs, rfl, SqL.of h1, k _ _ H rfl (.flat o_bl)⟩, fun d hd => by rw [hd]; exact q⟩) he) (he := he) (hpl := hpl)
end
end DL
namespace DL
open PySem PySem.Spec PyProof.Rows L2
theorem reps_take {K : PySem.W.Frag} {H : Hp} : ∀ {ds : List D} {vs : List V} (n : Nat), RepRs K H ds vs → RepRs K H (ds.take n) (vs.take n)
  | [], vs, n, h => by
    unfold RepRs at h
    subst h
    rw [List.take_nil, List.take_nil]
    exact reps_nil
  | d :: ds, vs, 0, h => reps_nil
  | d :: ds, vs, n + 1, h => by
    unfold RepRs at h
    obtain ⟨w, ws, rfl, h1, h2⟩ := h
    exact reps_cons h1 (reps_take n h2)
theorem flats_take {ds : List D} (n : Nat) (h : D.flats ds = true) : D.flats (ds.take n) = true := D.flats_of fun d hd => D.flats_mem h d (List.mem_of_mem_take hd)
theorem new_list {K : PySem.W.Frag} {H : Hp} {p : Addr} {ds : List D} {vs : List V} (hp : H p = none) (r : RepRs K H ds vs) (f : D.flats ds = true) : RepO K (upd H p (.lst vs)) (.lst ds) (.ref p) [p] := by
  unfold RepO
  exact ⟨p, _, [], rfl, upd_same, rfl, (r.flatO f).frame (Ex.new hp).tk fun b hb => nomatch hb⟩
section
variable {X : Cx} {ss ts : List Slot} {l b : Expr} {pos p2 : Pos} {Φ : List Slot → Slot → Prop}
theorem eCutTo (h : EV X l ss ts fun s1 r1 => EV X b s1 (r1 :: ts) fun s r2 => d1K (fun d => ∃ (ds : List D) (n : Nat), d = .lst ds ∧ D.flats ds = true ∧ r2 = .own (.int (n : Int)) ∧ Φ s (.own (.lst (ds.take n)))) r1) : EV X (.Subscript l (.Slice none (some b) none p2) pos) ss ts Φ := fun m B σ tv H Q hm hh k => by
  refine toE (pe_slice sl_list pe_w po_none (po_some pe_w)) ?_
  refine h m B σ tv H _ hm hh fun s1 r1 x H1 h1 hh1 => ?_
  refine h1 m B σ (x :: tv) H1 _ hm.up hh1 fun s r2 y H2 hq hh2 => ?_
  obtain ⟨d, i0, ds, n, rfl, fl, rfl, q⟩ := d1K_of hq
  have hy := hh2.top Slot.is_own
  rw [rep_int] at hy
  subst hy
  have hh3 := hh2.pop hm.up
  have z := hh3.top i0
  unfold RepR at z
  obtain ⟨a, vs, rfl, a1, a2⟩ := z
  refine ⟨(n : Int), rfl, a, vs, rfl, SqL.of a1, fun p hp => ?_⟩
  have lv := a2.length
  have ecut : cutV vs none (some (n : Int)) = vs.take n := by
    unfold cutV
    rw [HT.sIx_none, HT.sIx_nat, List.drop_zero, Nat.sub_zero]
    rcases Nat.le_total n vs.length with hle | hle
    · rw [Nat.min_eq_left hle]
    · rw [Nat.min_eq_right hle, List.take_of_length_le hle, List.take_length]
  rw [ecut]
  exact k s _ _ _ q ((hh3.pop hm).fresh (F := [p]) (Ex.new hp) (new_list hp (reps_take n a2) (flats_take n fl)) (by simp) fun b hb => by rw [List.mem_singleton.mp hb]; exact hp)
end
end DL
namespace DL
open PySem PySem.Spec PyProof.Rows L2
section
variable {X : Cx} {C f : Addr} {fd : FuncData} {ps : List Str} {n j : Nat} {F : List D → (D → Prop) → Prop}
structure NeK (K : PySem.W.Frag) (C : Addr) : Prop where
  ne : PySem.W.findIn K (.ref C) "__ne__" = some (some (.builtin "object.__ne__"))
  ob : PySem.W.mroIn K C (.type "object") = some true
end
end DL
namespace DL
open PySem PySem.Spec PyProof.Rows L2
theorem SqF.of {K : PySem.W.Frag} {H : Hp} {a : Addr} {vs : List V} (o : Only H) (h : SqL K H a vs) : SqF K H a vs := by
  rcases h with (h | h) | h
  · rcases o a with z | ⟨_, _, z⟩
    · rw [h] at z; cases z
    · rw [h] at z; cases z
  · exact .inl h
  · refine .inr ⟨fun H => .inr h, ?_⟩
    obtain ⟨o, _, _, h, _⟩ := h
    exact ⟨o, h⟩
mutual
def D.pure : D → Bool
  | .tup l => D.pures l
  | .lst l => D.pures l
  | .fz l => D.pures l
  | .ins _ _ _ => false
  | .exc _ _ _ => false
  | .dct _ _ => false
  | .nam _ _ => false
  | .ar _ _ _ => false
  | _ => true
def D.pures : List D → Bool
  | [] => true
  | d :: ds => d.pure && D.pures ds
end
mutual
def D.frz : D → D
  | .tup l => .tup (D.frzs l)
  | .lst l => .fz (D.frzs l)
  | .fz l => .fz (D.frzs l)
  | .non => .non
  | .bl b => .bl b
  | .int i => .int i
  | .str x => .str x
  | .raw v => .raw v
  | .ins C ns l => .ins C ns l
  | .exc C ns l => .exc C ns l
  | .dct ks l => .dct ks l
  | .nam d v => .nam d v
  | .ar d cs us => .ar d cs us
def D.frzs : List D → List D
  | [] => []
  | d :: ds => d.frz :: D.frzs ds
end
section
variable {X : Cx} {pins : List (Addr × Obj)} {σ : L2.St} {s : Shared}
def FrzTo (X : Cx) (pins : List (Addr × Obj)) (σ : L2.St) (s : Shared) (H H' : Hp) (F : List Addr) : Prop := Inv X pins σ H' s ∧ TK H H' ∧ ∀ b, b ∉ F → H' b = H b
theorem FrzTo.same {H : Hp} {F : List Addr} (I : Inv X pins σ H s) : FrzTo X pins σ s H H F := ⟨I, TK.refl H, fun _ _ => rfl⟩
end
def it (n : Nat) (r : Slot) (d : D) : Slot := if d.flat = true then .own d else sub n r d
theorem it_flat {n : Nat} {r : Slot} {d : D} (h : d.flat = true) : it n r d = .own d := if_pos h
theorem it_sub {n : Nat} {r : Slot} {d : D} (h : d.flat = false) : it n r d = sub n r d := if_neg (by rw [h]; decide)
section
variable {K : PySem.W.Frag} {m : Nat → Prop} {B H H' : Hp} {σ : List (Option V)} {ss ts : List Slot} {tv : List V} {v : V} {fp : Own → List Addr} {d : D} {n : Nat} {r : Slot}
theorem HeldF.pushIt (h : HeldF K m B H fp σ ss tv ts) (r1 : RepR K H d v) {o : Own} (q : SlotOk K B H fp m o (some v) (sub n r d)) : HeldF K m B H (fupd fp (.t ts.length) []) σ ss (v :: tv) (it n r d :: ts) := by
  by_cases f : d.flat = true
  · rw [it_flat f]
    exact h.pushF (r1.flatO f)
  · rw [it_sub (by simpa using f)]
    exact h.pushV (fun _ => sub_own) q
theorem SlotOk.later {o : Own} (h : HeldF K m B H fp σ ss tv ts) (q : SlotOk K B H fp m o (some v) (sub n r d)) : SlotOk K B H (fupd fp (.t ts.length) []) m o (some v) (sub n r d) :=
  q.congrV (fun _ => sub_own) fun o' ho _ => by
    cases o' with
    | v i => exact fupd_vt
    | t k => exact fupd_tt (Nat.ne_of_lt (h.mle k ho))
theorem SlotOk.exx {o : Own} {s : Slot} (h : HeldF K m B H fp σ ss tv ts) (q : SlotOk K B H fp m o (some v) s) (e : Ex H H') : SlotOk K B H' fp m o (some v) s :=
  q.heap e.tk (h.base.trans e) h.base (fun a ha => by
    obtain ⟨u, hu, _⟩ := h.dom o a ha
    rw [hu, e a u hu]) fun o' d _ a ha => by
    obtain ⟨u, hu, _⟩ := h.dom o' a ha
    rw [hu, e a u hu]
end
end DL
namespace DL
open PySem PySem.Spec PyProof.Rows L2
structure FnG (P : Program) (w : World) (K : PySem.W.Frag) (mg : Str → Option Value) (base : Heap) (CX : CXT) (k : Nat) (f : Addr) (fd : FuncData) (ps : List Str) (sp : L2.Sp) : Prop where
  count : ∀ vs H Q E, sp vs H Q E → vs.length = ps.length
  go : ∀ (A : Around) (outer : List Env) (s : Shared) (H : Hp) (args : Args) (us : List Value) (vs : List V) (Q : VK) (E : XK), A.guards = some [] → Room k A → Env0 P w K mg base A outer s H → BindsTo s fd args (ps.zip us) → Vals vs us → sp vs H Q E → codeAny (model P w) A (.call (.ref f) args) (CR CX outer P w H s Q E) s
end DL
namespace DL
open PySem PySem.Spec PyProof.Rows L2
def D.text (d : D) : Str := match d.py with
  | some p => p.shown
  | none => ""
end DL
namespace DL
open PySem PySem.Spec PyProof.Rows L2
section
variable {K : PySem.W.Frag} {m : Nat → Prop} {B H H' : Hp} {σ : List (Option V)} {tv vs : List V} {v x : V} {fp : Own → List Addr} {d d0 d' : D} {l : List D} {n : Nat} {ss ts rs : List Slot} {r : Slot} {ds : List D} {o : Own}
theorem RepOs.item {i : Nat} : ∀ {ds : List D} {vs : List V} {F : List Addr} {i : Nat} {d : D}, RepOs K H ds vs F → ds[i]? = some d → F.Nodup → ∃ w G, vs[i]? = some w ∧ RepO K H d w G ∧ (∀ a ∈ G, a ∈ F) ∧ G.Nodup
  | [], _, _, i, _, _, e, _ => by simp at e
  | d :: ds, _, _, i, d', h, e, nd => by
    unfold RepOs at h
    obtain ⟨w, ws, F1, F2, rfl, rfl, e3, e4⟩ := h
    have n3 := List.nodup_append.mp nd
    cases i with
    | zero =>
      have z : d = d' := by simpa using e
      subst z
      exact ⟨w, F1, rfl, e3, fun a ha => List.mem_append_left _ ha, n3.1⟩
    | succ i =>
      obtain ⟨u, G, h1, h2, h3, h4⟩ := RepOs.item (i := 0) e4 (by simpa using e) n3.2.1
      exact ⟨u, G, by simpa using h1, h2, fun a ha => List.mem_append_right _ (h3 a ha), h4⟩
end
end DL
namespace DL
open PySem PySem.Spec PyProof.Rows L2
structure MethK (P : Program) (w : World) (K : PySem.W.Frag) (mg : Str → Option Value) (base : Heap) (k : Nat) (C : Addr) (m : Str) (ps : List Str) (f : Addr) (fd : FuncData) (ks : List Str) (is : List Nat) (dds : List D) (F : List D → (D → Prop) → Prop) : Prop where
  ok : FnOk P w K mg base CX0 k f fd ps (spP K F)
  cl : Cls K C
  me : Meth K C m f
  kb : ∃ (its : List Value) (dvs : List V), KBn K fd ps 1 ks (fun us ws => pick is (us ++ its ++ ws)) (fun vs zs => pick is (vs ++ dvs ++ zs)) ∧ ∀ H, RepRs K H dds dvs
section
variable {X : Cx} {k j : Nat} {fa C : Addr} {fd : FuncData} {ps ks : List Str} {is : List Nat} {m : Str} {e o e2 b : Expr} {es : List Expr} {apos pos : Pos} {ss ts : List Slot} {Φ : List Slot → Slot → Prop} {dds : List D} {kws : List Keyword}
theorem eJoin (h : EV X o ss ts fun s0 r0 => s1K (fun x => EV X e s0 (r0 :: ts) fun s r => d1K (fun d => ∃ ys : List Str, d = .lst (ys.map D.str) ∧ (ys.map (·.length)).sum + ys.length * x.length ≤ 16777216 ∧ Φ s (.own (.str (Txt.join x ys)))) r) r0)
    (hs : starEach [e] X.env = [(false, eval e X.env)] := by rfl) (hbase : attributeBase o "join" X.env (eval o X.env) = eval o X.env := by rfl) (hline : (apos.endLine == pos.line) = true := by rfl) :
    EV X (.Call (.Attribute o "join" apos) [e] [] pos) ss ts Φ := fun mm B σ tv H Q hm hh kk => by
  refine toE (pe_join pe_w pe_w hs hbase hline) ?_
  refine h mm B σ tv H _ hm hh fun s0 r0 v H1 hq h1 => ?_
  obtain ⟨x, er, hq⟩ := s1K_of hq
  have z := h1.top (d := .str x) (by rw [er]; exact Slot.is_own)
  rw [rep_str] at z
  refine ⟨⟨x, z⟩, ?_⟩
  refine hq mm B σ (v :: tv) H1 _ hm.up h1 fun s r y H2 hq2 h2 => ?_
  obtain ⟨d, ir, ys, rfl, hz, q⟩ := d1K_of hq2
  have z2 := h2.top ir
  unfold RepR at z2
  obtain ⟨p, vs, rfl, ep, rp⟩ := z2
  rw [reps_strs rp] at ep
  exact ⟨x, p, ys, z, rfl, .inl (SqL.of ep), hz, kk s _ _ H2 q (((h2.pop hm.up).pop hm).pushF o_str)⟩
end
end DL
namespace DL
open PySem PySem.Spec PyProof.Rows L2
def fL (F : D → List D → (D → D → Prop) → Prop) : FSp := fun ss q => ∃ (d0 a b : D) (k : D → D → Prop), ss = [.par a, .par b, .own d0] ∧ F d0 [a, b] k ∧ ∀ d' d, k d' d → q [.par a, .par b, .own d'] d
abbrev spL (K : PySem.W.Frag) (F : D → List D → (D → D → Prop) → Prop) : L2.Sp := spG K (fL F)
structure DefL (P : Program) (w : World) (K : PySem.W.Frag) (mg : Str → Option Value) (base : Heap) (CX : CXT) (k : Nat) (x : Str) (ps : List Str) (f : Addr) (fd : FuncData) (F : D → List D → (D → D → Prop) → Prop) : Prop where
  ok : FnOk P w K mg base CX k f fd ps (spL K F)
  nm : mg x = some (.ref f)
  kp : PySem.W.keepIn K (.ref f) = true
  bd : Binds K fd ps []
end DL
namespace DL
def sm : Nat → (Nat → Rat) → Rat
  | 0, _ => 0
  | n + 1, f => sm n f + f n
theorem sm_congr {f g : Nat → Rat} : ∀ {n : Nat}, (∀ k, k < n → f k = g k) → sm n f = sm n g
  | 0, _ => rfl
  | n + 1, h => by
    unfold sm
    rw [sm_congr fun k hk => h k (Nat.lt_succ_of_lt hk), h n (Nat.lt_succ_self n)]
theorem sm_zero {f : Nat → Rat} : ∀ {n : Nat}, (∀ k, k < n → f k = 0) → sm n f = 0
  | 0, _ => rfl
  | n + 1, h => by
    unfold sm
    rw [sm_zero fun k hk => h k (Nat.lt_succ_of_lt hk), h n (Nat.lt_succ_self n)]
    grind
theorem sm_lin {f g : Nat → Rat} {x y : Rat} : ∀ {n : Nat}, sm n (fun k => x * f k + y * g k) = x * sm n f + y * sm n g
  | 0 => by unfold sm; grind
  | n + 1 => by
    unfold sm
    rw [sm_lin]
    grind
theorem sm_add {f g : Nat → Rat} : ∀ {n : Nat}, sm n (fun k => f k + g k) = sm n f + sm n g
  | 0 => by unfold sm; grind
  | n + 1 => by
    unfold sm
    rw [sm_add]
    grind
theorem sm_neg {f : Nat → Rat} : ∀ {n : Nat}, sm n (fun k => - f k) = - sm n f
  | 0 => by unfold sm; grind
  | n + 1 => by
    unfold sm
    rw [sm_neg]
    grind
theorem sm_mul {f : Nat → Rat} {x : Rat} : ∀ {n : Nat}, sm n (fun k => x * f k) = x * sm n f
  | 0 => by unfold sm; grind
  | n + 1 => by
    unfold sm
    rw [sm_mul]
    grind
theorem sm_comm {f : Nat → Nat → Rat} {m : Nat} : ∀ {n : Nat}, sm n (fun k => sm m fun l => f k l) = sm m fun l => sm n fun k => f k l
  | 0 => by
    show sm 0 _ = sm m fun l => sm 0 fun k => f k l
    exact (sm_zero fun _ _ => rfl).symm
  | n + 1 => by
    show sm n (fun k => sm m fun l => f k l) + sm m (fun l => f n l) = _
    rw [sm_comm, ← sm_add]
    rfl
theorem sm_front {f : Nat → Rat} : ∀ {n : Nat}, sm (n + 1) f = f 0 + sm n fun k => f (k + 1)
  | 0 => by unfold sm sm; grind
  | n + 1 => by
    show sm (n + 1) f + f (n + 1) = f 0 + (sm n (fun k => f (k + 1)) + f (n + 1))
    rw [sm_front]
    grind
def sk (k j : Nat) : Nat := if j < k then j else j + 1
def un (k p : Nat) : Nat := if p < k then p else p - 1
theorem un_sk {k l : Nat} : un k (sk k l) = l := by
  by_cases h : l < k
  · have e : sk k l = l := if_pos h
    rw [e]
    exact if_pos h
  · have e : sk k l = l + 1 := if_neg h
    rw [e]
    unfold un
    rw [if_neg (by omega)]
    omega
theorem sk_lt {k l n : Nat} (h : l < n) : sk k l < n + 1 := by
  unfold sk
  split <;> omega
theorem sm_skip {f : Nat → Rat} {k : Nat} : ∀ {n : Nat}, k ≤ n → sm n (fun l => f (sk k l)) = sm (n + 1) fun p => if p = k then 0 else f p
  | 0, h => by
    have : k = 0 := by omega
    subst this
    unfold sm sm
    simp
    grind
  | n + 1, h => by
    show sm n (fun l => f (sk k l)) + f (sk k n) = sm (n + 1) (fun p => if p = k then 0 else f p) + (if n + 1 = k then 0 else f (n + 1))
    by_cases hk : k ≤ n
    · rw [sm_skip hk]
      have e : sk k n = n + 1 := by unfold sk; rw [if_neg (by omega)]
      rw [e, if_neg (by omega)]
    · have hk2 : k = n + 1 := by omega
      subst hk2
      have e : sk (n + 1) n = n := by unfold sk; rw [if_pos (by omega)]
      rw [e, if_pos rfl]
      show _ = (sm n (fun p => if p = n + 1 then 0 else f p) + (if n = n + 1 then 0 else f n)) + 0
      rw [if_neg (by omega), sm_congr (g := fun p => if p = n + 1 then 0 else f p) fun l hl => by
        have e : sk (n + 1) l = l := by unfold sk; rw [if_pos (by omega)]
        rw [e, if_neg (by omega)]]
      grind
def sg (k : Nat) : Rat := if k % 2 = 0 then 1 else -1
theorem sg_succ {k : Nat} : sg (k + 1) = - sg k := by
  unfold sg
  by_cases h : k % 2 = 0
  · rw [if_pos h, if_neg (by omega)]
  · rw [if_neg h, if_pos (by omega)]
    grind
def mi (A : Nat → Nat → Rat) (k : Nat) : Nat → Nat → Rat := fun i j => A (i + 1) (sk k j)
def dt : Nat → (Nat → Nat → Rat) → Rat
  | 0, _ => 1
  | n + 1, A => sm (n + 1) fun k => sg k * A 0 k * dt n (mi A k)
theorem dt_congr : ∀ {n : Nat} {A B : Nat → Nat → Rat}, (∀ i, i < n → ∀ j, j < n → A i j = B i j) → dt n A = dt n B
  | 0, _, _, _ => rfl
  | n + 1, A, B, h => by
    unfold dt
    refine sm_congr fun k hk => ?_
    rw [h 0 (Nat.succ_pos n) k hk, dt_congr (A := mi A k) (B := mi B k) fun i hi j hj => h _ (Nat.succ_lt_succ hi) _ (sk_lt hj)]
def rwi (A : Nat → Nat → Rat) (i : Nat) (r : Nat → Rat) : Nat → Nat → Rat := fun a b => if a = i then r b else A a b
theorem mi_rwi0 {A : Nat → Nat → Rat} {r : Nat → Rat} {k : Nat} : mi (rwi A 0 r) k = mi A k := by
  funext i j
  unfold mi rwi
  rw [if_neg (by omega)]
theorem mi_rwi {A : Nat → Nat → Rat} {r : Nat → Rat} {i k : Nat} : mi (rwi A (i + 1) r) k = rwi (mi A k) i fun j => r (sk k j) := by
  funext a b
  unfold mi rwi
  by_cases h : a = i
  · rw [if_pos (by omega), if_pos h]
  · rw [if_neg (by omega), if_neg h]
theorem dt_lin {x y : Rat} : ∀ {n : Nat} {A : Nat → Nat → Rat} {i : Nat} {u v : Nat → Rat}, i < n → dt n (rwi A i fun j => x * u j + y * v j) = x * dt n (rwi A i u) + y * dt n (rwi A i v)
  | 0, _, _, _, _, h => absurd h (Nat.not_lt_zero _)
  | n + 1, A, 0, u, v, _ => by
    unfold dt
    rw [← sm_lin]
    refine sm_congr fun k _ => ?_
    rw [mi_rwi0, mi_rwi0, mi_rwi0]
    unfold rwi
    rw [if_pos rfl, if_pos rfl, if_pos rfl]
    grind
  | n + 1, A, i + 1, u, v, h => by
    unfold dt
    rw [← sm_lin]
    refine sm_congr fun k _ => ?_
    rw [mi_rwi, mi_rwi, mi_rwi, dt_lin (Nat.lt_of_succ_lt_succ h)]
    unfold rwi
    rw [if_neg (by omega), if_neg (by omega), if_neg (by omega)]
    grind
theorem anti_zero {N : Nat} {F : Nat → Nat → Rat} (h : ∀ k p, F k p = - F p k) : sm N (fun k => sm N fun p => F k p) = 0 := by
  have e : sm N (fun k => sm N fun p => F k p) = - sm N (fun k => sm N fun p => F k p) := by
    have e1 : sm N (fun k => sm N fun p => F k p) = sm N (fun k => sm N fun p => - F p k) := sm_congr fun k _ => sm_congr fun p _ => h k p
    have e2 : sm N (fun k => sm N fun p => - F p k) = - sm N (fun k => sm N fun p => F p k) := by
      rw [← sm_neg]
      exact sm_congr fun k _ => sm_neg
    have e3 : sm N (fun k => sm N fun p => F p k) = sm N (fun k => sm N fun p => F k p) := sm_comm
    rw [e3] at e2
    exact e1.trans e2
  grind
theorem sk_two {k p j : Nat} (h : p ≠ k) : sk k (sk (un k p) j) = sk p (sk (un p k) j) := by
  unfold sk un
  repeat' split
  all_goals omega
theorem sg_two {k p : Nat} (h : p < k) : sg k * sg (un k p) = - (sg p * sg (un p k)) := by
  have e1 : un k p = p := if_pos h
  have e2 : un p k = k - 1 := if_neg (by omega)
  rw [e1, e2]
  have : sg k = - sg (k - 1) := by
    have := sg_succ (k := k - 1)
    rw [show k - 1 + 1 = k by omega] at this
    exact this
  rw [this]
  grind
theorem dt_alt : ∀ {n : Nat} {A : Nat → Nat → Rat} {i : Nat}, i + 1 < n → (∀ j, j < n → A i j = A (i + 1) j) → dt n A = 0
  | 0, _, _, h, _ => absurd h (Nat.not_lt_zero _)
  | 1, _, _, h, _ => absurd h (by omega)
  | n + 2, A, i + 1, h, e => by
    unfold dt
    refine sm_zero fun k _ => ?_
    rw [dt_alt (i := i) (A := mi A k) (by omega) fun j hj => e _ (sk_lt hj)]
    grind
  | m + 2, A, 0, h, e => by
    let F : Nat → Nat → Rat := fun k p => if p = k then 0 else sg k * sg (un k p) * (A 0 k * A 0 p) * dt m (fun i j => A (i + 2) (sk k (sk (un k p) j)))
    have fs : ∀ k p, F k p = - F p k := fun k p => by
      show (if p = k then _ else _) = - (if k = p then _ else _)
      by_cases c : p = k
      · rw [if_pos c, if_pos c.symm]
        grind
      · rw [if_neg c, if_neg (Ne.symm c)]
        have d : dt m (fun i j => A (i + 2) (sk k (sk (un k p) j))) = dt m (fun i j => A (i + 2) (sk p (sk (un p k) j))) := by
          congr 1
          funext i j
          rw [sk_two c]
        rw [d]
        have s : sg k * sg (un k p) = - (sg p * sg (un p k)) := by
          rcases Nat.lt_or_gt_of_ne c with q | q
          · exact sg_two q
          · have := sg_two q
            grind
        rw [s]
        grind
    have top : dt (m + 2) A = sm (m + 2) fun k => sm (m + 2) fun p => F k p := by
      show sm (m + 2) (fun k => sg k * A 0 k * dt (m + 1) (mi A k)) = _
      refine sm_congr fun k hk => ?_
      have e1 : dt (m + 1) (mi A k) = sm (m + 1) fun l => (fun p => sg (un k p) * A 0 p * dt m (fun i j => A (i + 2) (sk k (sk (un k p) j)))) (sk k l) := by
        show sm (m + 1) (fun l => sg l * mi A k 0 l * dt m (mi (mi A k) l)) = _
        refine sm_congr fun l hl => ?_
        show _ = sg (un k (sk k l)) * A 0 (sk k l) * dt m (fun i j => A (i + 2) (sk k (sk (un k (sk k l)) j)))
        rw [un_sk]
        have : mi A k 0 l = A 0 (sk k l) := (e _ (sk_lt hl)).symm
        rw [this]
        rfl
      have e3 := e1.trans (sm_skip (f := fun p => sg (un k p) * A 0 p * dt m (fun i j => A (i + 2) (sk k (sk (un k p) j)))) (by omega))
      rw [e3, ← sm_mul]
      refine sm_congr fun p _ => ?_
      show sg k * A 0 k * (if p = k then 0 else _) = (if p = k then 0 else _)
      by_cases c : p = k
      · rw [if_pos c, if_pos c]
        grind
      · rw [if_neg c, if_neg c]
        grind
    rw [top]
    exact anti_zero fs
def swi (A : Nat → Nat → Rat) (i j : Nat) : Nat → Nat → Rat := fun a b => A (if a = i then j else if a = j then i else a) b
theorem dt_two {n : Nat} {A : Nat → Nat → Rat} {i : Nat} (h : i + 1 < n) (u v : Nat → Rat) : dt n (rwi (rwi A i u) (i + 1) v) = - dt n (rwi (rwi A i v) (i + 1) u) := by
  have z : ∀ w : Nat → Rat, dt n (rwi (rwi A i w) (i + 1) w) = 0 := fun w => dt_alt h fun j _ => by
    unfold rwi
    rw [if_neg (by omega), if_pos rfl, if_pos rfl]
  have c : ∀ (p q : Nat → Rat), rwi (rwi A i p) (i + 1) q = rwi (rwi A (i + 1) q) i p := fun p q => by
    funext a b
    unfold rwi
    by_cases a1 : a = i + 1
    · rw [if_pos a1, if_neg (by omega), if_pos a1]
    · rw [if_neg a1, if_neg a1]
  have one : ∀ w : Nat → Rat, (fun j => 1 * w j + 0 * w j) = w := fun w => by funext j; grind
  have s := z fun j => 1 * u j + 1 * v j
  rw [dt_lin h, c, c, dt_lin (by omega), dt_lin (by omega), ← c, ← c, ← c, ← c, z, z] at s
  grind
theorem dt_swap1 {n : Nat} {A : Nat → Nat → Rat} {i : Nat} (h : i + 1 < n) : dt n (swi A i (i + 1)) = - dt n A := by
  have e1 : swi A i (i + 1) = rwi (rwi A i (A (i + 1))) (i + 1) (A i) := by
    funext a b
    unfold swi rwi
    by_cases a1 : a = i
    · rw [if_pos a1, if_neg (by omega), if_pos a1]
    · rw [if_neg a1]
      by_cases a2 : a = i + 1
      · rw [if_pos a2, if_pos a2]
      · rw [if_neg a2, if_neg a2, if_neg a1]
  have e2 : rwi (rwi A i (A i)) (i + 1) (A (i + 1)) = A := by
    funext a b
    unfold rwi
    by_cases a2 : a = i + 1
    · rw [if_pos a2, a2]
    · rw [if_neg a2]
      by_cases a1 : a = i
      · rw [if_pos a1, a1]
      · rw [if_neg a1]
  rw [e1, dt_two h, e2]
theorem dt_swap {n : Nat} : ∀ {d : Nat} {A : Nat → Nat → Rat} {i : Nat}, i + d + 1 < n → dt n (swi A i (i + d + 1)) = - dt n A
  | 0, A, i, h => dt_swap1 h
  | d + 1, A, i, h => by
    have e : swi A i (i + (d + 1) + 1) = swi (swi (swi A (i + d + 1) (i + d + 1 + 1)) i (i + d + 1)) (i + d + 1) (i + d + 1 + 1) := by
      funext a b
      unfold swi
      congr 1
      repeat' split
      all_goals omega
    rw [e, dt_swap1 (by omega), dt_swap (by omega), dt_swap1 (by omega)]
    grind
theorem dt_sw {n i j : Nat} {A : Nat → Nat → Rat} (hi : i < n) (hj : j < n) (h : i ≠ j) : dt n (swi A i j) = - dt n A := by
  rcases Nat.lt_or_gt_of_ne h with q | q
  · have e : j = i + (j - i - 1) + 1 := by omega
    rw [e]
    exact dt_swap (by omega)
  · have e : i = j + (i - j - 1) + 1 := by omega
    have s : swi A i j = swi A j i := by
      funext a b
      unfold swi
      congr 1
      repeat' split
      all_goals omega
    rw [s, e]
    exact dt_swap (by omega)
theorem dt_like {n i j : Nat} {A : Nat → Nat → Rat} (hi : i < n) (hj : j < n) (h : i ≠ j) (e : ∀ b, b < n → A i b = A j b) : dt n A = 0 := by
  have s : dt n (swi A i j) = dt n A := dt_congr fun a _ b hb => by
    unfold swi
    by_cases a1 : a = i
    · rw [if_pos a1, a1]
      exact (e b hb).symm
    · rw [if_neg a1]
      by_cases a2 : a = j
      · rw [if_pos a2, a2]
        exact e b hb
      · rw [if_neg a2]
  have := dt_sw hi hj h (A := A)
  grind
theorem rwi_self {A : Nat → Nat → Rat} {i : Nat} : rwi A i (A i) = A := by
  funext a b
  unfold rwi
  by_cases h : a = i
  · rw [if_pos h, h]
  · rw [if_neg h]
theorem dt_add {n i j : Nat} {A : Nat → Nat → Rat} {x : Rat} (hi : i < n) (hj : j < n) (h : i ≠ j) : dt n (rwi A i fun b => A i b + x * A j b) = dt n A := by
  have e : (fun b => A i b + x * A j b) = fun b => 1 * A i b + x * A j b := by funext b; grind
  rw [e, dt_lin hi, rwi_self, dt_like (A := rwi A i (A j)) hi hj h fun b _ => by
    unfold rwi
    rw [if_pos rfl, if_neg (Ne.symm h)]]
  grind
theorem dt_scale {n i : Nat} {A : Nat → Nat → Rat} {x : Rat} (hi : i < n) : dt n (rwi A i fun b => x * A i b) = x * dt n A := by
  have e : (fun b => x * A i b) = fun b => x * A i b + 0 * A i b := by funext b; grind
  rw [e, dt_lin hi, rwi_self]
  grind
theorem dt_col : ∀ {n : Nat} {A : Nat → Nat → Rat} {q : Nat}, q < n → (∀ i, i < n → A i q = 0) → dt n A = 0
  | 0, _, _, h, _ => absurd h (Nat.not_lt_zero _)
  | n + 1, A, q, h, e => by
    unfold dt
    refine sm_zero fun k hk => ?_
    by_cases c : k = q
    · rw [c, e 0 (Nat.succ_pos n)]
      grind
    · rw [dt_col (q := un k q) (A := mi A k) (by unfold un; split <;> omega) fun i hi => by
        show A (i + 1) (sk k (un k q)) = 0
        have : sk k (un k q) = q := by
          unfold sk un
          repeat' split
          all_goals omega
        rw [this]
        exact e _ (by omega)]
      grind
def Unit (n c : Nat) (A : Nat → Nat → Rat) : Prop := ∀ j, j < c → ∀ i, i < n → A i j = if i = j then 1 else 0
theorem dt_unit : ∀ {c n : Nat} {A : Nat → Nat → Rat}, c < n → Unit n c A → (∀ i, c ≤ i → i < n → A i c = 0) → dt n A = 0
  | 0, n, A, h, _, z => dt_col h fun i hi => z i (Nat.zero_le _) hi
  | c + 1, 0, A, h, _, _ => absurd h (Nat.not_lt_zero _)
  | c + 1, n + 1, A, h, u, z => by
    have z0 : ∀ k, 0 < k → k < n + 1 → dt n (mi A k) = 0 := fun k h1 h2 => dt_col (q := 0) (by omega) fun i hi => by
      show A (i + 1) (sk k 0) = 0
      have : sk k 0 = 0 := if_pos h1
      rw [this, u 0 (Nat.succ_pos c) (i + 1) (by omega), if_neg (by omega)]
    have first : dt n (mi A 0) = 0 := dt_unit (c := c) (by omega) (fun j hj i hi => by
      show A (i + 1) (sk 0 j) = _
      have : sk 0 j = j + 1 := if_neg (by omega)
      rw [this, u (j + 1) (by omega) (i + 1) (by omega)]
      by_cases q : i = j
      · rw [if_pos q, if_pos (by omega)]
      · rw [if_neg q, if_neg (by omega)]) fun i h1 h2 => by
      show A (i + 1) (sk 0 c) = 0
      have : sk 0 c = c + 1 := if_neg (by omega)
      rw [this]
      exact z _ (by omega) (by omega)
    show sm (n + 1) (fun k => sg k * A 0 k * dt n (mi A k)) = 0
    refine sm_zero fun k hk => ?_
    by_cases q : k = 0
    · rw [q, first]
      grind
    · rw [z0 k (by omega) hk]
      grind
end DL
namespace DL
theorem ent_at {M : List (List Rat)} {i : Nat} {r : List Rat} (h : M[i]? = some r) (j : Nat) : ent M i j = (r[j]?).getD 0 := by
  unfold ent
  rw [h]
  rfl
theorem firstRow_is {M : List (List Rat)} {st c a : Nat} (h : firstRow M st c = some a) : st ≤ a ∧ a < M.length ∧ ent M a c ≠ 0 ∧ ∀ j, st ≤ j → j < a → ent M j c = 0 := by
  unfold firstRow at h
  rw [List.find?_range_eq_some] at h
  obtain ⟨h1, h2, h3⟩ := h
  rw [Bool.and_eq_true, decide_eq_true_eq, decide_eq_true_eq] at h1
  refine ⟨h1.1, by simpa using h2, h1.2, fun j a b => ?_⟩
  have := h3 j b
  rw [decide_eq_true a, Bool.true_and] at this
  by_cases q : ent M j c = 0
  · exact q
  · rw [decide_eq_true q] at this
    cases this
theorem firstRow_no {M : List (List Rat)} {st c : Nat} (h : firstRow M st c = none) : ∀ j, st ≤ j → j < M.length → ent M j c = 0 := fun j a b => by
  unfold firstRow at h
  rw [List.find?_range_eq_none] at h
  have := h j b
  rw [decide_eq_true a, Bool.true_and] at this
  by_cases q : ent M j c = 0
  · exact q
  · rw [decide_eq_true q] at this
    cases this
def swapR (M : List (List Rat)) (a k : Nat) : List (List Rat) := (M.set a ((M[k]?).getD [])).set k ((M[a]?).getD [])
def leadR (R : List (List Rat)) (k c : Nat) : List Rat := ((R[k]?).getD []).map (· * (1 / ent R k c))
def clearR (R : List (List Rat)) (k c : Nat) : List (List Rat) := (R.map fun r => List.zipWith (fun p q => p - (r[c]?).getD 0 * q) r (leadR R k c)).set k (leadR R k c)
theorem turn_none {s : El3} {c : Nat} (h : firstRow s.rows s.led.length c = none) : s.turn c = ⟨s.rows, s.led, 0⟩ := by
  unfold El3.turn
  rw [h]
theorem turn_some {s : El3} {c a : Nat} (h : firstRow s.rows s.led.length c = some a) : s.turn c = ⟨clearR (swapR s.rows a s.led.length) s.led.length c, s.led ++ [c], (if a ≠ s.led.length then -s.num else s.num) * ent (swapR s.rows a s.led.length) s.led.length c⟩ := by
  unfold El3.turn
  rw [h]
  rfl
section
variable {M : List (List Rat)} {n L a k c : Nat}
theorem swapR_len : (swapR M a k).length = M.length := by
  unfold swapR
  rw [List.length_set, List.length_set]
theorem swapR_at (ha : a < M.length) (hk : k < M.length) (i : Nat) : (swapR M a k)[i]? = M[if i = k then a else if i = a then k else i]? := by
  unfold swapR
  by_cases h1 : i = k
  · rw [h1, List.getElem?_set_self (by rw [List.length_set]; exact hk), if_pos rfl, List.getElem?_eq_getElem ha]
    rfl
  · rw [List.getElem?_set_ne (Ne.symm h1), if_neg h1]
    by_cases h2 : i = a
    · rw [h2, List.getElem?_set_self ha, if_pos rfl, List.getElem?_eq_getElem hk]
      rfl
    · rw [List.getElem?_set_ne (Ne.symm h2), if_neg h2]
theorem swapR_wid (ha : a < M.length) (hk : k < M.length) (w : ∀ r, r ∈ M → r.length = L) : ∀ r, r ∈ swapR M a k → r.length = L := fun r hr => by
  obtain ⟨i, hi⟩ := List.getElem?_of_mem hr
  rw [swapR_at ha hk] at hi
  exact w r (List.mem_of_getElem? hi)
theorem swapR_ent (ha : a < M.length) (hk : k < M.length) : ent (swapR M a k) = swi (ent M) k a := by
  funext i j
  unfold ent swi
  rw [swapR_at ha hk]
theorem clearR_len : (clearR M k c).length = M.length := by
  unfold clearR
  rw [List.length_set, List.length_map]
theorem leadR_len (hk : k < M.length) (w : ∀ r, r ∈ M → r.length = L) : (leadR M k c).length = L := by
  unfold leadR
  rw [List.length_map, List.getElem?_eq_getElem hk]
  exact w _ (List.getElem_mem hk)
theorem clearR_wid (hk : k < M.length) (w : ∀ r, r ∈ M → r.length = L) : ∀ r, r ∈ clearR M k c → r.length = L := fun r hr => by
  unfold clearR at hr
  rcases List.mem_or_eq_of_mem_set hr with hr | rfl
  · obtain ⟨r0, h0, rfl⟩ := List.mem_map.mp hr
    rw [List.length_zipWith, w r0 h0, leadR_len hk w, Nat.min_self]
  · exact leadR_len hk w
theorem leadR_ent (hk : k < M.length) (j : Nat) : ((leadR M k c)[j]?).getD 0 = ent M k j * (1 / ent M k c) := by
  unfold leadR
  rw [List.getElem?_map, List.getElem?_eq_getElem hk]
  have e : ent M k j = (M[k][j]?).getD 0 := ent_at (List.getElem?_eq_getElem hk) j
  rw [e]
  show ((M[k][j]?).map _).getD 0 = _
  cases M[k][j]? with
  | none => show (0 : Rat) = 0 * _; grind
  | some x => rfl
theorem clearR_ent (hk : k < M.length) (w : ∀ r, r ∈ M → r.length = L) (i j : Nat) (hi : i < M.length) : ent (clearR M k c) i j = if i = k then ent M k j * (1 / ent M k c) else ent M i j - ent M i c * (ent M k j * (1 / ent M k c)) := by
  by_cases h : i = k
  · rw [if_pos h, h]
    have : (clearR M k c)[k]? = some (leadR M k c) := by
      unfold clearR
      rw [List.getElem?_set_self (by rw [List.length_map]; exact hk)]
    rw [ent_at this, leadR_ent hk]
  · rw [if_neg h]
    have e0 : (clearR M k c)[i]? = some (List.zipWith (fun p q => p - (M[i][c]?).getD 0 * q) M[i] (leadR M k c)) := by
      unfold clearR
      rw [List.getElem?_set_ne (Ne.symm h), List.getElem?_map, List.getElem?_eq_getElem hi]
      rfl
    have e1 : ent M i j = (M[i][j]?).getD 0 := ent_at (List.getElem?_eq_getElem hi) j
    have e2 : ent M i c = (M[i][c]?).getD 0 := ent_at (List.getElem?_eq_getElem hi) c
    rw [ent_at e0, ← leadR_ent hk, List.getElem?_zipWith, e1, e2]
    have l1 := w _ (List.getElem_mem hi)
    have l2 := leadR_len (c := c) hk w
    by_cases hj : j < L
    · rw [List.getElem?_eq_getElem (by omega : j < M[i].length), List.getElem?_eq_getElem (by omega : j < (leadR M k c).length)]
      rfl
    · rw [List.getElem?_eq_none (by omega : M[i].length ≤ j), List.getElem?_eq_none (by omega : (leadR M k c).length ≤ j)]
      show (0 : Rat) = 0 - _ * 0
      grind
theorem dt_clear {A : Nat → Nat → Rat} (hk : k < n) : ∀ t, t ≤ n → dt n (fun i j => if i = k then A k j else if i < t then A i j - A i c * A k j else A i j) = dt n A
  | 0, _ => by
    refine dt_congr fun i _ j _ => ?_
    by_cases h : i = k
    · rw [if_pos h, h]
    · rw [if_neg h, if_neg (Nat.not_lt_zero _)]
  | t + 1, ht => by
    have ih := dt_clear (A := A) hk t (by omega)
    by_cases q : t = k
    · rw [← ih]
      refine dt_congr fun i _ j _ => ?_
      by_cases h : i = k
      · rw [if_pos h, if_pos h]
      · rw [if_neg h, if_neg h]
        by_cases g : i < t
        · rw [if_pos g, if_pos (by omega)]
        · rw [if_neg g, if_neg (by omega)]
    · rw [← ih, ← dt_add (A := fun i j => if i = k then A k j else if i < t then A i j - A i c * A k j else A i j) (i := t) (j := k) (x := - A t c) (by omega) hk q]
      refine dt_congr fun i _ j _ => ?_
      unfold rwi
      dsimp only
      by_cases h1 : i = t
      · subst h1
        simp only [if_neg q, if_pos (Nat.lt_succ_self i), if_neg (Nat.lt_irrefl i), if_true]
        grind
      · rw [if_neg h1]
        by_cases h : i = k
        · rw [if_pos h, if_pos h]
        · rw [if_neg h, if_neg h]
          by_cases g : i < t
          · rw [if_pos g, if_pos (by omega)]
          · rw [if_neg g, if_neg (by omega)]
theorem dt_clearR (hn : M.length = n) (hk : k < n) (w : ∀ r, r ∈ M → r.length = L) (hv : ent M k c ≠ 0) : dt n (ent M) = ent M k c * dt n (ent (clearR M k c)) := by
  have hk' : k < M.length := by omega
  let B := rwi (ent M) k fun j => (1 / ent M k c) * ent M k j
  have e1 : dt n B = (1 / ent M k c) * dt n (ent M) := dt_scale hk
  have e2 := dt_clear (c := c) (A := B) hk n (Nat.le_refl n)
  have e3 : dt n (ent (clearR M k c)) = dt n B := by
    rw [← e2]
    refine dt_congr fun i hi j _ => ?_
    rw [clearR_ent hk' w i j (by omega)]
    have bk : B k j = ent M k j * (1 / ent M k c) := by
      show (if k = k then _ else _) = _
      rw [if_pos rfl]
      grind
    by_cases h : i = k
    · rw [if_pos h, if_pos h, bk]
    · rw [if_neg h, if_neg h, if_pos hi, bk]
      have bi : ∀ j, B i j = ent M i j := fun j => if_neg h
      rw [bi, bi]
  rw [e3, e1]
  have : ent M k c * (1 / ent M k c) = 1 := by
    rw [Rat.div_def, Rat.one_mul, Rat.mul_inv_cancel _ hv]
  grind
structure ElAt (M : List (List Rat)) (n L c : Nat) (s : El3) : Prop where
  len : s.rows.length = n
  wid : ∀ r, r ∈ s.rows → r.length = L
  few : s.led.length ≤ c
  is : (s.led = List.range c ∧ Unit n c (ent s.rows) ∧ dt n (ent M) = s.num * dt n (ent s.rows) ∧ s.num ≠ 0) ∨ (s.led.length < c ∧ s.num = 0 ∧ dt n (ent M) = 0)
theorem ElAt.start (h : M.length = n) (w : ∀ r, r ∈ M → r.length = L) : ElAt M n L 0 ⟨M, [], 1⟩ :=
  ⟨h, w, Nat.le_refl 0, .inl ⟨rfl, (fun _ z => absurd z (Nat.not_lt_zero _)), by show dt n (ent M) = 1 * dt n (ent M); grind, by show (1 : Rat) ≠ 0; decide⟩⟩
theorem ElAt.next {s : El3} (h : ElAt M n L c s) (hc : c < n) : ElAt M n L (c + 1) (s.turn c) := by
  have hl := h.len
  cases e : firstRow s.rows s.led.length c with
  | none =>
    rw [turn_none e]
    refine ⟨hl, h.wid, Nat.le_succ_of_le h.few, .inr ?_⟩
    have z := firstRow_no e
    rcases h.is with ⟨e1, u, d, _⟩ | ⟨e1, _, d⟩
    · rw [e1, List.length_range] at z
      refine ⟨by show s.led.length < _; rw [e1, List.length_range]; omega, rfl, ?_⟩
      rw [d, dt_unit hc u fun i a b => z i a (by omega)]
      grind
    · exact ⟨by show s.led.length < _; omega, rfl, d⟩
  | some a =>
    rw [turn_some e]
    obtain ⟨a1, a2, a3, a4⟩ := firstRow_is e
    have hk : s.led.length < s.rows.length := by omega
    have wR := swapR_wid a2 hk h.wid
    have lR := swapR_len (M := s.rows) (a := a) (k := s.led.length)
    have hkR : s.led.length < (swapR s.rows a s.led.length).length := by omega
    have entR := swapR_ent a2 hk
    have ev : ent (swapR s.rows a s.led.length) s.led.length c = ent s.rows a c := by
      rw [entR]
      unfold swi
      rw [if_pos rfl]
    refine ⟨by show (clearR _ _ _).length = n; rw [clearR_len, lR]; exact hl, clearR_wid hkR wR, by show (s.led ++ [c]).length ≤ _; rw [List.length_append]; exact Nat.succ_le_succ h.few, ?_⟩
    rcases h.is with ⟨e1, u, d, nz⟩ | ⟨e1, e2, d⟩
    · have lc : s.led.length = c := by rw [e1, List.length_range]
      rw [lc] at a1 hk wR lR hkR entR ev
      refine .inl ⟨by show s.led ++ [c] = _; rw [e1, List.range_succ], ?_, ?_, ?_⟩
      · show Unit n (c + 1) (ent (clearR (swapR s.rows a s.led.length) s.led.length c))
        rw [lc]
        have uR : Unit n c (ent (swapR s.rows a c)) := fun j hj i hi => by
          rw [entR]
          unfold swi
          by_cases h1 : i = c
          · rw [if_pos h1, u j hj a (by omega), if_neg (by omega), if_neg (by omega)]
          · rw [if_neg h1]
            by_cases h2 : i = a
            · rw [if_pos h2, u j hj c (by omega), if_neg (by omega), if_neg (by omega)]
            · rw [if_neg h2, u j hj i hi]
        intro j hj i hi
        rw [clearR_ent hkR wR i j (by omega)]
        have inv : ent (swapR s.rows a c) c c * (1 / ent (swapR s.rows a c) c c) = 1 := by
          rw [Rat.div_def, Rat.one_mul, Rat.mul_inv_cancel _ (by rw [ev]; exact a3)]
        by_cases hjc : j = c
        · subst hjc
          by_cases h1 : i = j
          · rw [if_pos h1, if_pos h1, inv]
          · rw [if_neg h1, if_neg h1, inv]
            grind
        · have z : ent (swapR s.rows a c) c j = 0 := by rw [uR j (by omega) c (by omega), if_neg (Ne.symm hjc)]
          by_cases h1 : i = c
          · rw [if_pos h1, z, if_neg (by omega)]
            grind
          · rw [if_neg h1, z, uR j (by omega) i hi]
            grind
      · show dt n (ent M) = (if a ≠ s.led.length then -s.num else s.num) * ent (swapR s.rows a s.led.length) s.led.length c * dt n (ent (clearR (swapR s.rows a s.led.length) s.led.length c))
        rw [lc, d]
        have dR : dt n (ent s.rows) = (if a ≠ c then -1 else 1) * dt n (ent (swapR s.rows a c)) := by
          rw [entR]
          by_cases q : a = c
          · rw [if_neg (by simpa using q), q]
            have : swi (ent s.rows) c c = ent s.rows := by
              funext i j
              unfold swi
              by_cases h1 : i = c
              · rw [if_pos h1, h1]
              · rw [if_neg h1, if_neg h1]
            rw [this]
            grind
          · rw [if_pos q, dt_sw (by omega) (by omega) (Ne.symm q)]
            grind
        rw [dR, dt_clearR (by omega) hc wR (by rw [ev]; exact a3)]
        split <;> grind
      · show (if a ≠ s.led.length then -s.num else s.num) * ent (swapR s.rows a s.led.length) s.led.length c ≠ 0
        rw [lc, ev]
        intro z
        rcases Rat.mul_eq_zero.mp z with z | z
        · split at z
          · exact nz (by grind)
          · exact nz z
        · exact a3 z
    · refine .inr ⟨by show (s.led ++ [c]).length < _; rw [List.length_append]; show s.led.length + 1 < _; omega, ?_, d⟩
      show (if a ≠ s.led.length then -s.num else s.num) * _ = 0
      rw [e2]
      split <;> grind
end
end DL
namespace DL
def mr (A : Nat → Nat → Rat) (i : Nat) : Nat → Nat → Rat := fun a b => A (sk i a) (b + 1)
theorem sk_zero {k : Nat} : sk (k + 1) 0 = 0 := if_pos (Nat.succ_pos k)
theorem sk_nought {j : Nat} : sk 0 j = j + 1 := if_neg (Nat.not_lt_zero j)
theorem sk_succ {k j : Nat} : sk (k + 1) (j + 1) = sk k j + 1 := by
  unfold sk
  by_cases h : j < k
  · rw [if_pos h, if_pos (by omega)]
  · rw [if_neg h, if_neg (by omega)]
theorem dt_fc : ∀ {n : Nat} {A : Nat → Nat → Rat}, dt (n + 1) A = sm (n + 1) fun i => sg i * A i 0 * dt n (mr A i)
  | 0, A => rfl
  | n + 1, A => by
    have e1 : dt (n + 1 + 1) A = sm (n + 1 + 1) fun k => sg k * A 0 k * dt (n + 1) (mi A k) := rfl
    rw [e1, sm_front (f := fun k => sg k * A 0 k * dt (n + 1) (mi A k)), sm_front (f := fun i => sg i * A i 0 * dt (n + 1) (mr A i))]
    have z : mi A 0 = mr A 0 := by
      funext i j
      show A (i + 1) (sk 0 j) = A (sk 0 i) (j + 1)
      rw [sk_nought, sk_nought]
    rw [z]
    congr 1
    have L : ∀ k, k < n + 1 → sg (k + 1) * A 0 (k + 1) * dt (n + 1) (mi A (k + 1)) = sm (n + 1) fun i => sg (k + 1) * A 0 (k + 1) * (sg i * A (i + 1) 0 * dt n fun a b => A (sk i a + 1) (sk k b + 1)) := fun k _ => by
      rw [dt_fc (A := mi A (k + 1)), ← sm_mul]
      refine sm_congr fun i _ => ?_
      have e2 : mi A (k + 1) i 0 = A (i + 1) 0 := by show A (i + 1) (sk (k + 1) 0) = _; rw [sk_zero]
      have e3 : mr (mi A (k + 1)) i = fun a b => A (sk i a + 1) (sk k b + 1) := by
        funext a b
        show A (sk i a + 1) (sk (k + 1) (b + 1)) = _
        rw [sk_succ]
      rw [e2, e3]
    have R : ∀ i, i < n + 1 → sg (i + 1) * A (i + 1) 0 * dt (n + 1) (mr A (i + 1)) = sm (n + 1) fun k => sg (k + 1) * A 0 (k + 1) * (sg i * A (i + 1) 0 * dt n fun a b => A (sk i a + 1) (sk k b + 1)) := fun i _ => by
      have e0 : dt (n + 1) (mr A (i + 1)) = sm (n + 1) fun k => sg k * mr A (i + 1) 0 k * dt n (mi (mr A (i + 1)) k) := rfl
      rw [e0, ← sm_mul]
      refine sm_congr fun k _ => ?_
      have e2 : mr A (i + 1) 0 k = A 0 (k + 1) := by show A (sk (i + 1) 0) (k + 1) = _; rw [sk_zero]
      have e3 : mi (mr A (i + 1)) k = fun a b => A (sk i a + 1) (sk k b + 1) := by
        funext a b
        show A (sk (i + 1) (a + 1)) (sk k b + 1) = _
        rw [sk_succ]
      rw [e2, e3, sg_succ, sg_succ]
      grind
    rw [sm_congr L, sm_congr R, sm_comm]
theorem dt_tr : ∀ {n : Nat} {A : Nat → Nat → Rat}, dt n (fun i j => A j i) = dt n A
  | 0, _ => rfl
  | n + 1, A => by
    have e1 : dt (n + 1) (fun i j => A j i) = sm (n + 1) fun k => sg k * A k 0 * dt n (mi (fun i j => A j i) k) := rfl
    rw [e1, dt_fc]
    refine sm_congr fun k _ => ?_
    have e2 : mi (fun i j => A j i) k = fun i j => mr A k j i := rfl
    rw [e2, dt_tr]
theorem dt_zrow {n i : Nat} {A : Nat → Nat → Rat} (hi : i < n) (h : ∀ b, b < n → A i b = 0) : dt n A = 0 := by
  have e := dt_scale (A := A) (x := 0) hi
  have : dt n (rwi A i fun b => 0 * A i b) = dt n A := dt_congr fun a ha b hb => by
    unfold rwi
    by_cases q : a = i
    · rw [if_pos q, q, h b hb]
      grind
    · rw [if_neg q]
  rw [this] at e
  rw [e]
  grind
theorem dt_end : ∀ {n : Nat} {A : Nat → Nat → Rat} {e : Rat}, (∀ j, j < n → A n j = 0) → A n n = e → dt (n + 1) A = e * dt n A
  | 0, A, e, _, h => by
    show (0 : Rat) + sg 0 * A 0 0 * 1 = e * 1
    rw [h]
    have : sg 0 = 1 := rfl
    rw [this]
    grind
  | n + 1, A, e, h0, h => by
    have e1 : dt (n + 1 + 1) A = sm (n + 1) (fun k => sg k * A 0 k * dt (n + 1) (mi A k)) + sg (n + 1) * A 0 (n + 1) * dt (n + 1) (mi A (n + 1)) := rfl
    have z : dt (n + 1) (mi A (n + 1)) = 0 := dt_zrow (i := n) (Nat.lt_succ_self n) fun b hb => by
      show A (n + 1) (sk (n + 1) b) = 0
      have : sk (n + 1) b = b := if_pos hb
      rw [this]
      exact h0 b hb
    have t : ∀ k, k < n + 1 → sg k * A 0 k * dt (n + 1) (mi A k) = e * (sg k * A 0 k * dt n (mi A k)) := fun k hk => by
      rw [dt_end (A := mi A k) (e := e) (fun j hj => by
        show A (n + 1) (sk k j) = 0
        refine h0 _ ?_
        unfold sk
        split <;> omega) (by
        show A (n + 1) (sk k n) = e
        have : sk k n = n + 1 := if_neg (by omega)
        rw [this]
        exact h)]
      grind
    rw [e1, z, sm_congr t, sm_mul]
    show _ = e * sm (n + 1) fun k => sg k * A 0 k * dt n (mi A k)
    grind
theorem dt_rows {n i : Nat} {A : Nat → Nat → Rat} {y : Nat → Rat} (hi : i < n) : ∀ {t : Nat}, t ≤ n → dt n (rwi A i fun b => A i b + sm t fun l => if l = i then 0 else y l * A l b) = dt n A
  | 0, _ => by
    have : (rwi A i fun b => A i b + sm 0 fun l => if l = i then 0 else y l * A l b) = A := by
      have e : (fun b => A i b + sm 0 fun l => if l = i then 0 else y l * A l b) = A i := by
        funext b
        show A i b + 0 = A i b
        grind
      rw [e, rwi_self]
    rw [this]
  | t + 1, ht => by
    have ih := dt_rows (A := A) (y := y) hi (t := t) (by omega)
    by_cases q : t = i
    · rw [← ih]
      refine dt_congr fun a _ b _ => ?_
      unfold rwi
      by_cases qa : a = i
      · rw [if_pos qa, if_pos qa]
        show A i b + (sm t _ + if t = i then 0 else y t * A t b) = _
        rw [if_pos q]
        grind
      · rw [if_neg qa, if_neg qa]
    · rw [← ih, ← dt_add (A := rwi A i fun b => A i b + sm t fun l => if l = i then 0 else y l * A l b) (i := i) (j := t) (x := y t) hi (by omega) (fun z => q z.symm)]
      refine dt_congr fun a _ b _ => ?_
      unfold rwi
      by_cases qa : a = i
      · rw [if_pos qa, if_pos qa]
        dsimp only
        rw [if_pos rfl, if_neg q]
        show A i b + (sm t _ + if t = i then 0 else y t * A t b) = _
        rw [if_neg q]
        grind
      · rw [if_neg qa, if_neg qa, if_neg qa]
theorem sm_sub {f g : Nat → Rat} {n : Nat} : sm n (fun k => f k - g k) = sm n f - sm n g := by
  have : (fun k => f k - g k) = fun k => 1 * f k + (-1) * g k := by funext k; grind
  rw [this, sm_lin]
  grind
theorem dt_lastc {k : Nat} {B : Nat → Nat → Rat} {y : Nat → Rat} {e : Rat} (h : ∀ a, a < k + 1 → B a k = sm k (fun l => y l * B a l) + if a = k then e else 0) : dt (k + 1) B = e * dt k B := by
  rw [← dt_tr (A := B), ← dt_rows (A := fun i j => B j i) (y := fun l => - y l) (Nat.lt_succ_self k) (Nat.le_succ k)]
  have eq : ∀ b, b < k + 1 → (B b k + sm k fun l => if l = k then 0 else - y l * B b l) = if b = k then e else 0 := fun b hb => by
    have t : (sm k fun l => if l = k then 0 else - y l * B b l) = - sm k fun l => y l * B b l := by
      rw [← sm_neg]
      refine sm_congr fun l hl => ?_
      rw [if_neg (by omega)]
      grind
    rw [t, h b hb]
    grind
  rw [dt_end (e := e)]
  · congr 1
    rw [← dt_tr (A := B)]
    refine dt_congr fun a ha b hb => ?_
    unfold rwi
    rw [if_neg (by omega)]
  · intro j hj
    unfold rwi
    rw [if_pos rfl]
    dsimp only
    rw [eq j (by omega), if_neg (by omega)]
  · unfold rwi
    rw [if_pos rfl]
    dsimp only
    rw [eq k (by omega), if_pos rfl]
theorem sm_one {k i : Nat} {f : Nat → Rat} (hi : i < k) : sm k f = f i + sm k fun l => if l = i then 0 else f l := by
  induction k with
  | zero => omega
  | succ k ih =>
    show sm k f + f k = f i + (sm k _ + if k = i then 0 else f k)
    by_cases q : k = i
    · rw [if_pos q]
      have : (sm k fun l => if l = i then 0 else f l) = sm k f := sm_congr fun l hl => if_neg (by omega)
      rw [this, q]
      grind
    · rw [if_neg q, ih (by omega)]
      grind
theorem dt_cramer {k i : Nat} {B : Nat → Nat → Rat} {y : Nat → Rat} (hi : i < k) : dt k (fun a b => if b = i then sm k (fun l => y l * B a l) else B a b) = y i * dt k B := by
  rw [← dt_tr (A := B), ← dt_scale (A := fun i j => B j i) (i := i) hi, ← dt_tr]
  have R := dt_rows (A := rwi (fun i j => B j i) i fun b => y i * B b i) (y := y) hi (Nat.le_refl k)
  rw [← R]
  refine dt_congr fun a ha b hb => ?_
  unfold rwi
  by_cases q : a = i
  · rw [if_pos q, if_pos q]
    dsimp only
    rw [if_pos rfl, sm_one hi]
    congr 1
    refine sm_congr fun l _ => ?_
    by_cases ql : l = i
    · rw [if_pos ql, if_pos ql]
    · rw [if_neg ql, if_neg ql, if_neg ql]
  · rw [if_neg q, if_neg q, if_neg q]
end DL
namespace DL
@[reducible] def Jc (l : List Nat) (i : Nat) : Nat := l.getD i 0
theorem Jc_lo {l : List Nat} {c i : Nat} (h : i < l.length) : Jc (l ++ [c]) i = Jc l i := by
  show (l ++ [c]).getD i 0 = l.getD i 0
  rw [List.getD_eq_getElem?_getD, List.getD_eq_getElem?_getD, List.getElem?_append_left h]
theorem Jc_hi {l : List Nat} {c : Nat} : Jc (l ++ [c]) l.length = c := by
  show (l ++ [c]).getD l.length 0 = c
  rw [List.getD_eq_getElem?_getD, List.getElem?_append_right (Nat.le_refl _), Nat.sub_self]
  rfl
def ldm (M : List (List Rat)) (s : El3) (p : Nat → Nat) : Rat := dt s.led.length fun a b => ent M (p a) (Jc s.led b)
structure ElI (M : List (List Rat)) (n L c : Nat) (s : El3) (p : Nat → Nat) : Prop where
  len : s.rows.length = n
  wid : ∀ r, r ∈ s.rows → r.length = L
  few : s.led.length ≤ c
  kn : s.led.length ≤ n
  pn : ∀ i, i < n → p i < n
  lt : ∀ l, l < s.led.length → Jc s.led l < c
  unit : ∀ l, l < s.led.length → ∀ i, i < n → ent s.rows i (Jc s.led l) = if i = l then 1 else 0
  comb : ∀ i, i < n → ∀ j, j < L → ent M (p i) j = sm s.led.length (fun l => ent M (p i) (Jc s.led l) * ent s.rows l j) + if i < s.led.length then 0 else ent s.rows i j
  num : s.num = 0 ∨ s.num = ldm M s p ∨ s.num = - ldm M s p
  nz : ldm M s p ≠ 0
theorem ElI.start {M : List (List Rat)} {n L : Nat} (h : M.length = n) (w : ∀ r, r ∈ M → r.length = L) : ElI M n L 0 ⟨M, [], 1⟩ (fun i => i) where
  len := h
  wid := w
  few := Nat.le_refl 0
  kn := Nat.zero_le n
  pn := fun _ h => h
  lt := fun _ z => absurd z (Nat.not_lt_zero _)
  unit := fun _ z => absurd z (Nat.not_lt_zero _)
  comb := fun i _ j _ => by
    show ent M i j = 0 + if i < 0 then 0 else ent M i j
    rw [if_neg (Nat.not_lt_zero i)]
    grind
  num := .inr (.inl rfl)
  nz := by show (1 : Rat) ≠ 0; decide
theorem ElI.next {M : List (List Rat)} {n L c : Nat} {s : El3} {p : Nat → Nat} (h : ElI M n L c s p) (hc : c < L) : ∃ p', ElI M n L (c + 1) (s.turn c) p' := by
  have hl := h.len
  cases e : firstRow s.rows s.led.length c with
  | none =>
    rw [turn_none e]
    exact ⟨p, ⟨hl, h.wid, Nat.le_succ_of_le h.few, h.kn, h.pn, fun l z => Nat.lt_succ_of_lt (h.lt l z), h.unit, h.comb, .inl rfl, h.nz⟩⟩
  | some a =>
    rw [turn_some e]
    obtain ⟨a1, a2, a3, a4⟩ := firstRow_is e
    have hk : s.led.length < s.rows.length := by omega
    have wR := swapR_wid a2 hk h.wid
    have lR := swapR_len (M := s.rows) (a := a) (k := s.led.length)
    have hkR : s.led.length < (swapR s.rows a s.led.length).length := by omega
    have entR := swapR_ent a2 hk
    generalize hRR : swapR s.rows a s.led.length = R at *
    generalize hkk : s.led.length = k at *
    let sw : Nat → Nat := fun i => if i = k then a else if i = a then k else i
    have swn : ∀ i, i < n → sw i < n := fun i hi => by
      show (if i = k then a else if i = a then k else i) < n
      split
      · omega
      · split <;> omega
    have swk : ∀ i, i < k → sw i = i := fun i hi => by
      show (if i = k then a else if i = a then k else i) = i
      rw [if_neg (by omega), if_neg (by omega)]
    have swge : ∀ i, k ≤ i → k ≤ sw i := fun i hi => by
      show k ≤ if i = k then a else if i = a then k else i
      split
      · omega
      · split <;> omega
    have eR : ∀ i j, ent R i j = ent s.rows (sw i) j := fun i j => by rw [entR]; rfl
    -- the rows exchanged
    have unitR : ∀ l, l < k → ∀ i, i < n → ent R i (Jc s.led l) = if i = l then 1 else 0 := fun l hl2 i hi => by
      rw [eR, h.unit l (by omega) _ (swn i hi)]
      by_cases q : i < k
      · rw [swk i q]
      · have := swge i (by omega)
        rw [if_neg (by omega), if_neg (by omega)]
    have combR : ∀ i, i < n → ∀ j, j < L → ent M (p (sw i)) j = sm k (fun l => ent M (p (sw i)) (Jc s.led l) * ent R l j) + if i < k then 0 else ent R i j := fun i hi j hj => by
      have := h.comb (sw i) (swn i hi) j hj
      rw [hkk] at this
      rw [this]
      have e1 : (sm k fun l => ent M (p (sw i)) (Jc s.led l) * ent s.rows l j) = sm k fun l => ent M (p (sw i)) (Jc s.led l) * ent R l j := sm_congr fun l hl2 => by rw [eR, swk l hl2]
      rw [e1, eR]
      by_cases q : i < k
      · rw [swk i q]
      · have := swge i (by omega)
        rw [if_neg (by omega), if_neg q]
    have ldR : dt k (fun a b => ent M (p (sw a)) (Jc s.led b)) = ldm M s p := by
      unfold ldm
      rw [hkk]
      refine dt_congr fun i hi j _ => ?_
      rw [swk i hi]
    -- the pivot
    obtain ⟨v, hv⟩ : ∃ v, ent R k c = v := ⟨_, rfl⟩
    have v0 : v ≠ 0 := by
      rw [← hv, eR]
      show ent s.rows (if k = k then a else _) c ≠ 0
      rw [if_pos rfl]
      exact a3
    have vi : v * (1 / v) = 1 := by rw [Rat.div_def, Rat.one_mul, Rat.mul_inv_cancel _ v0]
    have eC : ∀ i j, i < n → ent (clearR R k c) i j = if i = k then ent R k j * (1 / v) else ent R i j - ent R i c * (ent R k j * (1 / v)) := fun i j hi => by
      rw [clearR_ent hkR wR i j (by omega), hv]
    have jlo : ∀ l, l < k → Jc (s.led ++ [c]) l = Jc s.led l := fun l hl2 => Jc_lo (by omega)
    have jhi : Jc (s.led ++ [c]) k = c := by rw [← hkk]; exact Jc_hi
    have ldN : dt (k + 1) (fun a b => ent M (p (sw a)) (Jc (s.led ++ [c]) b)) = v * ldm M s p := by
      rw [dt_lastc (y := fun l => ent R l c) (e := v), ← ldR]
      · congr 1
        refine dt_congr fun i _ j hj => ?_
        rw [jlo j hj]
      · intro i hi
        rw [jhi, combR i (by omega) c hc]
        have e1 : (sm k fun l => ent M (p (sw i)) (Jc s.led l) * ent R l c) = sm k fun l => ent R l c * ent M (p (sw i)) (Jc (s.led ++ [c]) l) := sm_congr fun l hl2 => by rw [jlo l hl2]; grind
        rw [e1]
        congr 1
        by_cases q : i = k
        · rw [if_neg (by omega), if_pos q, q, hv]
        · rw [if_pos (by omega), if_neg q]
    have lenN : (s.led ++ [c]).length = k + 1 := by rw [List.length_append, hkk]; rfl
    refine ⟨fun i => p (sw i), ⟨by show (clearR R k c).length = n; rw [clearR_len]; omega, clearR_wid hkR wR, ?_, ?_, fun i hi => h.pn _ (swn i hi), ?_, ?_, ?_, ?_, ?_⟩⟩
    · show (s.led ++ [c]).length ≤ c + 1
      have := h.few
      omega
    · show (s.led ++ [c]).length ≤ n
      omega
    · intro l hl2
      have hl3 : l < k + 1 := by have : l < (s.led ++ [c]).length := hl2; omega
      show Jc (s.led ++ [c]) l < c + 1
      by_cases q : l = k
      · rw [q, jhi]; exact Nat.lt_succ_self c
      · rw [jlo l (by omega)]
        exact Nat.lt_succ_of_lt (h.lt l (by omega))
    · intro l hl2 i hi
      have hl3 : l < k + 1 := by have : l < (s.led ++ [c]).length := hl2; omega
      show ent (clearR R k c) i (Jc (s.led ++ [c]) l) = _
      by_cases q : l = k
      · rw [q, jhi, eC i c hi, hv]
        by_cases qi : i = k
        · rw [if_pos qi, if_pos qi, vi]
        · rw [if_neg qi, if_neg qi, vi]
          grind
      · rw [jlo l (by omega), eC i _ hi, unitR l (by omega) k (by omega), if_neg (Ne.symm q), unitR l (by omega) i hi]
        by_cases qi : i = k
        · rw [if_pos qi, if_neg (by omega)]
          grind
        · rw [if_neg qi]
          grind
    · intro i hi j hj
      show ent M (p (sw i)) j = sm (s.led ++ [c]).length (fun l => ent M (p (sw i)) (Jc (s.led ++ [c]) l) * ent (clearR R k c) l j) + if i < (s.led ++ [c]).length then 0 else ent (clearR R k c) i j
      rw [lenN]
      show _ = (sm k _ + ent M (p (sw i)) (Jc (s.led ++ [c]) k) * ent (clearR R k c) k j) + _
      have e1 : (sm k fun l => ent M (p (sw i)) (Jc (s.led ++ [c]) l) * ent (clearR R k c) l j) = (sm k fun l => ent M (p (sw i)) (Jc s.led l) * ent R l j) - (ent R k j * (1 / v)) * sm k fun l => ent M (p (sw i)) (Jc s.led l) * ent R l c := by
        rw [← sm_mul, ← sm_sub]
        refine sm_congr fun l hl2 => ?_
        rw [jlo l hl2, eC l j (by omega), if_neg (by omega)]
        grind
      rw [e1, jhi, eC k j (by omega), if_pos rfl]
      have b1 := combR i hi j hj
      have b2 := combR i hi c hc
      by_cases q : i < k
      · rw [if_pos q] at b1 b2
        rw [if_pos (by omega)]
        grind
      · rw [if_neg q] at b1 b2
        by_cases qi : i = k
        · rw [if_pos (by omega)]
          rw [qi] at b1 b2 ⊢
          rw [hv] at b2
          grind
        · rw [if_neg (by omega), eC i j hi, if_neg qi]
          grind
    · have e1 : ldm M ⟨clearR R k c, s.led ++ [c], (if a ≠ k then -s.num else s.num) * ent R k c⟩ (fun i => p (sw i)) = v * ldm M s p := by
        show dt (s.led ++ [c]).length _ = _
        rw [lenN]
        exact ldN
      rw [e1]
      show (if a ≠ k then -s.num else s.num) * ent R k c = 0 ∨ _
      rw [hv]
      rcases h.num with z | z | z
      · rw [z]; left; split <;> grind
      · rw [z]
        split
        · right; right; grind
        · right; left; grind
      · rw [z]
        split
        · right; left; grind
        · right; right; grind
    · have e1 : ldm M ⟨clearR R k c, s.led ++ [c], (if a ≠ k then -s.num else s.num) * ent R k c⟩ (fun i => p (sw i)) = v * ldm M s p := by
        show dt (s.led ++ [c]).length _ = _
        rw [lenN]
        exact ldN
      rw [e1]
      intro z
      rcases Rat.mul_eq_zero.mp z with z | z
      · exact v0 z
      · exact h.nz z
section
variable {M : List (List Rat)} {n L c : Nat} {s : El3} {p : Nat → Nat}
theorem ElI.quo1 (h : ElI M n L c s p) {i j : Nat} (hi : i < n) (hk : s.led.length ≤ i) (hj : j < L) : ent s.rows i j * ldm M s p = dt (s.led.length + 1) fun a b => ent M (p (if a = s.led.length then i else a)) (if b = s.led.length then j else Jc s.led b) := by
  rw [dt_lastc (y := fun l => ent s.rows l j) (e := ent s.rows i j)]
  · congr 1
    unfold ldm
    refine dt_congr fun a ha b hb => ?_
    rw [if_neg (by omega), if_neg (by omega)]
  · intro a ha
    rw [if_pos rfl]
    have e1 : ∀ a : Nat, (sm s.led.length fun l => ent s.rows l j * ent M (p a) (if l = s.led.length then j else Jc s.led l)) = sm s.led.length fun l => ent M (p a) (Jc s.led l) * ent s.rows l j := fun a => sm_congr fun l hl => by rw [if_neg (by omega)]; grind
    rw [e1]
    by_cases q : a = s.led.length
    · rw [if_pos q, if_pos q, h.comb i hi j hj, if_neg (by omega)]
    · rw [if_neg q, if_neg q]
      have := h.comb a (by omega) j hj
      rw [if_pos (by omega)] at this
      exact this
theorem ElI.quo2 (h : ElI M n L c s p) {i j : Nat} (hk : i < s.led.length) (hj : j < L) : ent s.rows i j * ldm M s p = dt s.led.length fun a b => ent M (p a) (if b = i then j else Jc s.led b) := by
  have hn := h.kn
  unfold ldm
  rw [← dt_cramer (B := fun a b => ent M (p a) (Jc s.led b)) (y := fun l => ent s.rows l j) hk]
  refine dt_congr fun a ha b hb => ?_
  by_cases q : b = i
  · rw [if_pos q, if_pos q]
    have := h.comb a (by omega) j hj
    rw [if_pos ha] at this
    rw [this]
    have : ∀ x : Rat, x + 0 = x := fun x => by grind
    rw [this]
    exact sm_congr fun l _ => by grind
  · rw [if_neg q, if_neg q]
end
def Mb (S n L : Nat) (A : Nat → Nat → Rat) : Prop := ∃ δ : Rat, δ ≠ 0 ∧ Sz S δ ∧ ∀ m, m ≤ 5 → ∀ I J : Nat → Nat, (∀ a, a < m → I a < n) → (∀ b, b < m → J b < L) → Sz S (δ * dt m fun a b => A (I a) (J b))
end DL
namespace DL
open PySem PySem.Spec PyProof.Rows L2
theorem sgn_eq {c d : Nat} {x : Str} (h : x = ⟨#[d]⟩) : ((⟨#[c]⟩ : Str) = x) ↔ c = d := by
  subst h
  constructor
  · intro e
    have := congrArg Str.cps e
    simpa using this
  · intro e
    rw [e]
theorem svx_norm {X : Cx} {B : Hp} {fx : List Nat} {sts : List Stmt} {ss ss' ts : List Slot} {E : DE} {R : XD → List Slot → Prop} (e : ss = ss') (h : SVX X B fx sts ss' ts E R) : SVX X B fx sts ss ts E R := by
  rw [e]
  exact h
theorem join_nil (ys : List Str) : (Txt.join "" ys).cps.toList = ys.flatMap fun y => y.cps.toList := by
  rw [TL.join_eq]
  induction ys with
  | nil => rfl
  | cons x r ih =>
    cases r with
    | nil => simp [Str.join]
    | cons z r =>
      show (x ++ "" ++ Str.join "" (z :: r)).cps.toList = _
      have e : ("" : Str).cps.toList = [] := rfl
      rw [str_app_cps, str_app_cps, ih, e, List.append_nil]
      rw [List.flatMap_cons (x := x)]
section
variable {X : Cx} {ss ts : List Slot} {Φ : List Slot → Slot → Prop} {e : Expr} {p pos : Pos}
theorem eStrI (hm : X.mg "str" = none) (h : EV X e ss ts fun s r => i1K (fun i => i.natAbs.log2 < 1920 ∧ Φ s (.own (.str (toString i)))) r) (hg : Gl X "str" := by rfl)
    (he : starEach [e] X.env = (false, eval e X.env) :: starEach [] X.env := by rfl) : EV X (.Call (.Name "str" p) [e] [] pos) ss ts Φ :=
  ev_strI hg hm (h.imp fun s r hq => by
    obtain ⟨i, e, q⟩ := i1K_of hq
    exact ⟨i, by rw [e]; exact Slot.is_own, q⟩) he
end
end DL
namespace DL
structure Sy (b : Nat) (x : Rat) : Prop where
  sz : Sz b x
  low : x.den < 2 ^ 20
theorem Sy.up {a b : Nat} {x : Rat} (h : Sy a x) (hb : a ≤ b) : Sy b x := ⟨h.sz.up hb, h.low⟩
theorem Sy.top {b : Nat} {x : Rat} (h : Sy b x) : x.num.natAbs < 2 ^ b := h.sz.top
theorem Sy.bot {b : Nat} {x : Rat} (h : Sy b x) : (x.den : Int).natAbs < 2 ^ b := h.sz.bot
theorem Sy.of {b : Nat} {p q : Int} (h : q ≠ 0) (h1 : p.natAbs < 2 ^ b) (h2 : q.natAbs < 2 ^ b) (h3 : q.natAbs < 2 ^ 20) : Sy b (Rat.divInt p q) := ⟨.of h h1 h2, by
  have := divInt_den_le (p := p) h
  rw [Int.natAbs_natCast] at this
  exact Nat.lt_of_le_of_lt this h3⟩
structure Tc (m : Nat) (R : List (List Rat)) : Prop where
  one : 1 ≤ R.length
  most : R.length ≤ m
  sq : ∀ r, r ∈ R → r.length = R.length
  sy : ∀ r, r ∈ R → ∀ x, x ∈ r → Sy 50 x
theorem RowB.sub {n : Nat} {r s : List Rat} (h : RowB n r) (k : ∀ x, x ∈ s → x ∈ r) : RowB n s := by
  obtain ⟨d, d0, hd, hp⟩ := h
  exact ⟨d, d0, hd, fun x hx => hp x (k x hx)⟩
def Ov (D : Int) (B : Nat) (x : Rat) : Prop := ∃ p : Int, x = Rat.divInt p D ∧ p.natAbs ≤ B
theorem Ov.zero {D : Int} : Ov D 0 0 := ⟨0, by rw [Rat.zero_divInt], Nat.le_refl _⟩
theorem Ov.add {D : Int} (hD : D ≠ 0) {A B : Nat} {x y : Rat} (h : Ov D A x) (k : Ov D B y) : Ov D (A + B) (x + y) := by
  obtain ⟨p, rfl, hp⟩ := h
  obtain ⟨q, rfl, hq⟩ := k
  refine ⟨p + q, ?_, Nat.le_trans (Int.natAbs_add_le p q) (Nat.add_le_add hp hq)⟩
  rw [Rat.divInt_add_divInt p q hD hD, ← Int.add_mul, Rat.divInt_mul_right hD]
theorem Ov.sg {D : Int} {A : Nat} {x : Rat} (h : Ov D A x) (k : Nat) : Ov D A (sg k * x) := by
  unfold DL.sg
  split
  · rw [Rat.one_mul]; exact h
  · obtain ⟨p, rfl, hp⟩ := h
    refine ⟨-p, ?_, by rw [Int.natAbs_neg]; exact hp⟩
    rw [← Rat.neg_divInt]
    grind
theorem Ov.sm {D : Int} (hD : D ≠ 0) {A : Nat} {f : Nat → Rat} : ∀ {n : Nat}, (∀ k, k < n → Ov D A (f k)) → Ov D (n * A) (sm n f)
  | 0, _ => by rw [Nat.zero_mul]; exact .zero
  | n + 1, h => by
    rw [Nat.succ_mul]
    exact Ov.add hD (Ov.sm hD fun k hk => h k (by omega)) (h n (by omega))
theorem Ov.sz {D : Int} {B b : Nat} {x : Rat} (h : Ov D B x) (h0 : D ≠ 0) (h1 : B < 2 ^ b) (h2 : D.natAbs < 2 ^ b) : Sz b x := by
  obtain ⟨p, rfl, hp⟩ := h
  exact .of h0 (by omega) h2
def pr : Nat → (Nat → Int) → Int
  | 0, _ => 1
  | n + 1, dd => dd 0 * pr n fun i => dd (i + 1)
def RowsB (b n : Nat) (dd : Nat → Int) (A : Nat → Nat → Rat) : Prop := ∀ i, i < n → 0 < dd i ∧ (dd i).natAbs < 2 ^ b ∧ ∀ j, ∃ p : Int, A i j = Rat.divInt p (dd i) ∧ p.natAbs < 2 ^ b
theorem RowsB.mi {b n : Nat} {dd : Nat → Int} {A : Nat → Nat → Rat} (h : RowsB b (n + 1) dd A) (k : Nat) : RowsB b n (fun i => dd (i + 1)) (mi A k) := fun i hi => by
  obtain ⟨h1, h2, h3⟩ := h (i + 1) (by omega)
  exact ⟨h1, h2, fun j => h3 _⟩
theorem RowsB.pr {b : Nat} : ∀ {n : Nat} {dd : Nat → Int} {A : Nat → Nat → Rat}, RowsB b n dd A → 0 < pr n dd ∧ (pr n dd).natAbs ≤ 2 ^ (b * n)
  | 0, _, _, _ => ⟨by show (0:Int) < 1; decide, by show 1 ≤ _; exact Nat.one_le_two_pow⟩
  | n + 1, dd, A, h => by
    obtain ⟨h1, h2, _⟩ := h 0 (Nat.succ_pos n)
    obtain ⟨i1, i2⟩ := RowsB.pr (h.mi 0)
    refine ⟨Int.mul_pos h1 i1, ?_⟩
    show (dd 0 * DL.pr n fun i => dd (i + 1)).natAbs ≤ _
    rw [Int.natAbs_mul, show b * (n + 1) = b + b * n by rw [Nat.mul_succ]; omega, Nat.pow_add]
    exact Nat.mul_le_mul (Nat.le_of_lt h2) i2
end DL
namespace DL
structure ElS (n L : Nat) (B : Nat) (s : El3) : Prop where
  len : s.rows.length = n
  wid : ∀ r, r ∈ s.rows → r.length = L
  rows : ∀ r, r ∈ s.rows → RowB (B - 1) r
  num : Sz B s.num
end DL
namespace K03
open PySem PySem.Spec PyProof.Rows L2 DL
def two (t : Str) : List Str := [t ++ "0", t ++ "1"]
def chs : Nat → List Str
  | 0 => [""]
  | n + 1 => (chs n).flatMap two
def sel (l : Int) (t : Str) : Bool := decide (l ≤ Txt.count t "1")
def low : Nat → Nat → List Nat
  | 0, _ => []
  | k + 1, n => (48 + n / 2 ^ k % 2) :: low k n
def txt (k n : Nat) : Str := ⟨(low k n).toArray⟩
def ones (t : Str) : Nat := (t.cps.toList.filter (· == 49)).length
def keep (m : Nat) (l : Int) (n : Nat) : Bool := decide (n / 2 ^ m = 0) && decide (l ≤ (ones (txt m n) : Int))
theorem ground1 : ∀ m, m < 6 → ((List.range 32).filter fun n => decide (n / 2 ^ m = 0)).map (txt m) = chs m := by decide +kernel
theorem ground2 : ∀ m, m < 6 → ∀ t, t ∈ chs m → Txt.count t "1" = (ones t : Int) := by decide +kernel
theorem main {m : Nat} (hm : m < 6) (l : Int) : ((List.range 32).filter (keep m l)).map (txt m) = (chs m).filter (sel l) := by
  have e : keep m l = fun n => (fun t => decide (l ≤ (ones t : Int))) (txt m n) && decide (n / 2 ^ m = 0) := by
    funext n
    unfold keep
    rw [Bool.and_comm]
  rw [e, ← List.filter_filter]
  have e2 : ((List.range 32).filter fun n => decide (n / 2 ^ m = 0)).filter (fun n => (fun t => decide (l ≤ (ones t : Int))) (txt m n)) = ((List.range 32).filter fun n => decide (n / 2 ^ m = 0)).filter ((fun t => decide (l ≤ (ones t : Int))) ∘ txt m) := rfl
  rw [e2, ← List.filter_map, ground1 m hm]
  refine List.filter_congr fun t ht => ?_
  unfold sel
  rw [ground2 m hm t ht]
end K03
namespace DL
open PySem PySem.Spec PyProof.Rows L2
theorem Mb.sub {S n L n' L' : Nat} {A : Nat → Nat → Rat} (h : Mb S n L A) {f g : Nat → Nat} (hf : ∀ a, a < n' → f a < n) (hg : ∀ b, b < L' → g b < L) : Mb S n' L' (fun a b => A (f a) (g b)) := by
  obtain ⟨δ, d0, dS, hd⟩ := h
  exact ⟨δ, d0, dS, fun m hm I J hI hJ => hd m hm (fun a => f (I a)) (fun b => g (J b)) (fun a ha => hf _ (hI a ha)) fun b hb => hg _ (hJ b hb)⟩
theorem Mb.congr {S n L : Nat} {A B : Nat → Nat → Rat} (h : Mb S n L A) (e : ∀ i, i < n → ∀ j, j < L → A i j = B i j) : Mb S n L B := by
  obtain ⟨δ, d0, dS, hd⟩ := h
  refine ⟨δ, d0, dS, fun m hm I J hI hJ => ?_⟩
  rw [← dt_congr fun a ha b hb => e _ (hI a ha) _ (hJ b hb)]
  exact hd m hm I J hI hJ
theorem Mb.tr {S n L : Nat} {A : Nat → Nat → Rat} (h : Mb S n L A) : Mb S L n (fun i j => A j i) := by
  obtain ⟨δ, d0, dS, hd⟩ := h
  refine ⟨δ, d0, dS, fun m hm I J hI hJ => ?_⟩
  rw [← dt_tr]
  exact hd m hm J I hJ hI
theorem Mb.up {S S' n L : Nat} {A : Nat → Nat → Rat} (h : Mb S n L A) (k : S ≤ S') : Mb S' n L A := by
  obtain ⟨δ, d0, dS, hd⟩ := h
  exact ⟨δ, d0, dS.up k, fun m hm I J hI hJ => (hd m hm I J hI hJ).up k⟩
def blk (n : Nat) (A B : Nat → Nat → Rat) : Nat → Nat → Rat := fun a b => if a < n then (if b < n then A a b else 0) else if b < n then 0 else B (a - n) (b - n)
end DL
namespace DL
open PySem PySem.Spec PyProof.Rows L2
def fM (F : D → List D → (D → D → Prop) → Prop) : FSp := fun ss q => ∃ (d0 : D) (ds : List D) (k : D → D → Prop), ss = ds.map Slot.par ++ [.own d0] ∧ F d0 ds k ∧ ∀ d' d, k d' d → q (ds.map Slot.par ++ [.own d']) d
abbrev spM (K : PySem.W.Frag) (F : D → List D → (D → D → Prop) → Prop) : L2.Sp := spG K (fM F)
structure DefM (P : Program) (w : World) (K : PySem.W.Frag) (mg : Str → Option Value) (base : Heap) (CX : CXT) (k : Nat) (x : Str) (ps : List Str) (f : Addr) (fd : FuncData) (F : D → List D → (D → D → Prop) → Prop) : Prop where
  ok : FnOk P w K mg base CX k f fd ps (spM K F)
  nm : mg x = some (.ref f)
  kp : PySem.W.keepIn K (.ref f) = true
  bd : Binds K fd ps []
end DL
namespace DL
open PySem PySem.Spec PyProof.Rows L2
structure MakeX (P : Program) (w : World) (K : PySem.W.Frag) (mg : Str → Option Value) (base : Heap) (k : Nat) (x : Str) (C : Addr) (ps : List Str) (f : Addr) (fd : FuncData) (F : FX) : Prop where
  ok : FnOk P w K mg base (L2.CX P w) k f fd ps (spX K F)
  mkr : Mk K C f
  nm : mg x = some (.ref C)
  bd : Binds K fd ps []
end DL
namespace DL
theorem int_div (y : Int) : (y : Rat) = Rat.divInt y 1 := by
  have e := Rat.num_divInt_den (y : Rat)
  rw [Rat.num_intCast, Rat.den_intCast] at e
  exact e.symm
end DL
namespace DL
open PySem PySem.Spec PyProof.Rows L2
theorem RowB.zero {b : Nat} {r s : List Rat} (h : RowB b r) (k : ∀ x, x ∈ s → x ∈ r ∨ x = 0) : RowB b s := by
  obtain ⟨d, d0, hd, hp⟩ := h
  refine ⟨d, d0, hd, fun x hx => ?_⟩
  rcases k x hx with h | rfl
  · exact hp x h
  · exact ⟨0, by rw [Rat.zero_divInt], Nat.two_pow_pos _⟩
end DL
namespace DL
def Mi (S n L : Nat) (A : Nat → Nat → Rat) : Prop := ∃ δ : Int, δ ≠ 0 ∧ δ.natAbs < 2 ^ S ∧ ∀ m, m ≤ 5 → ∀ I J : Nat → Nat, (∀ a, a < m → I a < n) → (∀ b, b < m → J b < L) → ∃ z : Int, z.natAbs < 2 ^ S ∧ (dt m fun a b => A (I a) (J b)) = Rat.divInt z δ
theorem Mi.mb {S n L : Nat} {A : Nat → Nat → Rat} (h : Mi S n L A) : Mb (S + 1) n L A := by
  obtain ⟨δ, d0, dS, hd⟩ := h
  refine ⟨(δ : Rat), fun z => d0 (by exact_mod_cast z), sz_int (lt_up dS (by omega)), fun m hm I J hI hJ => ?_⟩
  obtain ⟨z, hz, e⟩ := hd m hm I J hI hJ
  rw [e]
  have : (δ : Rat) * Rat.divInt z δ = ((z : Int) : Rat) := by
    have e := Rat.divInt_mul_right (n := z) (d := 1) (a := δ) d0
    rw [Int.one_mul] at e
    rw [int_div δ, int_div z, Rat.divInt_mul_divInt, Int.one_mul, Int.mul_comm]
    exact e
  rw [this]
  exact sz_int (lt_up hz (by omega))
end DL
namespace DL
theorem Mi.sub {S n L n' L' : Nat} {A : Nat → Nat → Rat} (h : Mi S n L A) {f g : Nat → Nat} (hf : ∀ a, a < n' → f a < n) (hg : ∀ b, b < L' → g b < L) : Mi S n' L' (fun a b => A (f a) (g b)) := by
  obtain ⟨δ, d0, dS, hd⟩ := h
  exact ⟨δ, d0, dS, fun m hm I J hI hJ => hd m hm (fun a => f (I a)) (fun b => g (J b)) (fun a ha => hf _ (hI a ha)) fun b hb => hg _ (hJ b hb)⟩
theorem Mi.congr {S n L : Nat} {A B : Nat → Nat → Rat} (h : Mi S n L A) (e : ∀ i, i < n → ∀ j, j < L → A i j = B i j) : Mi S n L B := by
  obtain ⟨δ, d0, dS, hd⟩ := h
  refine ⟨δ, d0, dS, fun m hm I J hI hJ => ?_⟩
  rw [← dt_congr fun a ha b hb => e _ (hI a ha) _ (hJ b hb)]
  exact hd m hm I J hI hJ
theorem Mi.tr {S n L : Nat} {A : Nat → Nat → Rat} (h : Mi S n L A) : Mi S L n (fun i j => A j i) := by
  obtain ⟨δ, d0, dS, hd⟩ := h
  refine ⟨δ, d0, dS, fun m hm I J hI hJ => ?_⟩
  rw [← dt_tr]
  exact hd m hm J I hJ hI
theorem div_div' {z q δ : Int} (h0 : δ ≠ 0) (hq : q ≠ 0) : Rat.divInt z δ / Rat.divInt q δ = Rat.divInt z q := by
  rw [Rat.div_def, Rat.inv_divInt, Rat.divInt_mul_divInt, Int.mul_comm δ q, Rat.divInt_mul_right h0]
theorem ElI.over {M : List (List Rat)} {n L c S : Nat} {s : El3} {p : Nat → Nat} (h : ElI M n L c s p) (hc : c ≤ L) (hn : n ≤ 5) (hM : Mi S n L (ent M)) : ∃ q : Int, 0 < q ∧ q.natAbs < 2 ^ S ∧ ∀ i, i < n → ∀ j, j < L → ∃ z : Int, z.natAbs < 2 ^ S ∧ ent s.rows i j = Rat.divInt z q := by
  obtain ⟨δ, d0, dS, hd⟩ := hM
  have hk := h.kn
  obtain ⟨q, hq, eq⟩ := hd s.led.length (by omega) p (Jc s.led) (fun a ha => h.pn a (by omega)) fun b hb => Nat.lt_of_lt_of_le (h.lt b hb) hc
  have eq' : ldm M s p = Rat.divInt q δ := eq
  have q0 : q ≠ 0 := fun z => h.nz (by rw [eq', z, Rat.zero_divInt])
  have key : ∀ x y : Rat, x * ldm M s p = y → (∃ z : Int, z.natAbs < 2 ^ S ∧ y = Rat.divInt z δ) → ∃ z : Int, z.natAbs < 2 ^ S ∧ x = Rat.divInt z q := fun x y e ⟨z, hz, ez⟩ => by
    refine ⟨z, hz, ?_⟩
    rw [← div_div' d0 q0, ← ez, ← eq', ← e]
    have := h.nz
    grind
  have all : ∀ i, i < n → ∀ j, j < L → ∃ z : Int, z.natAbs < 2 ^ S ∧ ent s.rows i j = Rat.divInt z q := fun i hi j hj => by
    by_cases qq : i < s.led.length
    · refine key _ _ (h.quo2 qq hj) (hd s.led.length (by omega) p _ (fun a ha => h.pn a (by omega)) fun b hb => ?_)
      split
      · exact hj
      · exact Nat.lt_of_lt_of_le (h.lt b hb) hc
    · refine key _ _ (h.quo1 hi (by omega) hj) (hd (s.led.length + 1) (by omega) (fun a => p (if a = s.led.length then i else a)) _ (fun a ha => ?_) fun b hb => ?_)
      · refine h.pn _ ?_
        split <;> omega
      · split
        · exact hj
        · exact Nat.lt_of_lt_of_le (h.lt b (by omega)) hc
  rcases Int.lt_or_gt_of_ne q0 with hneg | hpos
  · refine ⟨-q, by omega, by omega, fun i hi j hj => ?_⟩
    obtain ⟨z, hz, e⟩ := all i hi j hj
    exact ⟨-z, by omega, by rw [e, ← Rat.neg_divInt_neg z q]⟩
  · exact ⟨q, hpos, hq, all⟩
end DL
namespace DL
open PySem PySem.Spec PyProof.Rows L2
section
variable {X : Cx} {C f : Addr} {fd : FuncData} {nmm : Str} {ps : List Str} {n j : Nat} {F : List D → (D → Prop) → Prop}
def NoBool (K : PySem.W.Frag) (C : Addr) : Prop := PySem.W.findIn K (.ref C) "__bool__" = some none
end
end DL
namespace DL
open PySem PySem.Spec PyProof.Rows L2
theorem str_none (a : Str) : Str.empty ++ a = a := by
  refine str_ext ?_
  rw [str_app_cps]
  rfl
end DL
namespace DL
open PySem PySem.Spec PyProof.Rows L2
def TyV (K : PySem.W.Frag) (H : Hp) (y : V) (T : String) : Prop := (y = .non ∧ T = "NoneType") ∨ (∃ x, y = .str x ∧ T = "str") ∨ ∃ b vs, y = .ref b ∧ SqL K H b vs ∧ T = "list"
@[reducible] def tyD : D → Bool
  | .non => true
  | .str _ => true
  | .lst _ => true
  | _ => false
theorem tyD_V {K : PySem.W.Frag} {H : Hp} {d : D} {v : V} (h : tyD d = true) (r : RepR K H d v) : ∃ T, (T = "NoneType" ∨ T = "str" ∨ T = "list") ∧ TyV K H v T := by
  unfold tyD at h
  split at h
  · rw [rep_non] at r; exact ⟨_, .inl rfl, .inl ⟨r, rfl⟩⟩
  · rw [rep_str] at r; exact ⟨_, .inr (.inl rfl), .inr (.inl ⟨_, r, rfl⟩)⟩
  · unfold RepR at r
    obtain ⟨a, vs, rfl, h1, _⟩ := r
    exact ⟨_, .inr (.inr rfl), .inr (.inr ⟨a, vs, rfl, SqL.of h1, rfl⟩)⟩
  · cases h
structure NotC (K : PySem.W.Frag) (C : Addr) : Prop where
  isn : ∀ T, T = "NoneType" ∨ T = "str" ∨ T = "list" → PySem.W.isNotIn K T C = true
  nf : ∀ T, T = "NoneType" ∨ T = "str" ∨ T = "list" → PySem.W.notFirst K C (.type T) = true
section
variable {X : Cx} {C f : Addr} {fd : FuncData} {nmm : Str} {ps : List Str} {n j : Nat} {F : List D → (D → Prop) → Prop}
theorem tyV_looks {pins : List (Addr × Obj)} {σ : L2.St} {H : Hp} {s : Shared} {y : V} {u : Value} {T : String} (I : Inv X pins σ H s) (h : TyV X.K H y T) (r : RelV y u) : ∀ M, PySem.W.Looks M s.heap (typeOf u) (.type T) := fun M => by
  rcases h with ⟨rfl, rfl⟩ | ⟨x, rfl, rfl⟩ | ⟨b, vs, rfl, hs, rfl⟩
  · cases r
    exact PySem.W.Looks.now
  · obtain ⟨t, rfl⟩ := r
    exact PySem.W.Looks.now
  · obtain ⟨its, rv, hl, hz⟩ := I.list hs
    obtain rfl : u = Value.ref b := r
    obtain ⟨o, ho, hc, _⟩ := hl.isList
    exact fun A Q E s k q => wpAny_typeOf_ref (k _ _ ho) (by rw [hc]; exact q)
theorem call_isN (c : NotC X.K C) : CallR X (.builtin "isinstance") (fun xs H Q => ∃ y T, xs = [y, .ref C] ∧ (T = "NoneType" ∨ T = "str" ∨ T = "list") ∧ TyV X.K H y T ∧ Q (.bl false) H) := by
  intro pins s σ H xs us Q I r h
  obtain ⟨y, T, rfl, hT, hy, q⟩ := h
  obtain ⟨u1, u2, rfl, r1, r2⟩ := vals2 r
  obtain rfl : u2 = Value.ref C := r2
  have lk := tyV_looks I hy r1
  have fin : EP X pins σ Q (.bool false) { s with toks := s.toks + 1 } := ⟨.bl false, H, I.tok _, rfl, q⟩
  rcases hy with ⟨rfl, rfl⟩ | ⟨x, rfl, rfl⟩ | ⟨b, vs, rfl, hs, rfl⟩
  · cases r1
    exact PySem.W.isn_call (P := fun _ => True) I.kIn lk (c.isn _ hT) (by intro z; cases z) trivial (fun _ h => PySem.W.none_cls trivial h) fin
  · obtain ⟨t, rfl⟩ := r1
    exact PySem.W.isn_call (P := fun _ => True) I.kIn lk (c.isn _ hT) (by intro z; cases z) trivial (fun p h => PySem.W.str_cls p h) fin
  · obtain ⟨its, rv, hl, hz⟩ := I.list hs
    obtain rfl : u1 = Value.ref b := r1
    obtain ⟨o, ho, hc, _⟩ := hl.isList
    exact PySem.W.isn_call (P := fun h => ∃ o, h.get? b = some o ∧ o.cls = .type "list") I.kIn lk (c.isn _ hT) (by intro z; cases z) ⟨o, ho, hc⟩ (fun p h => PySem.W.list_cls p h) fin
end
section
variable {X : Cx} {C : Addr} {F : List D → (D → Prop) → Prop} {g : Bool → Bool} {op : CmpOp} {ss ts : List Slot} {Θ : List Slot → Bool → Prop} {Φ : List Slot → Slot → Prop} {a b e : Expr} {pos p px : Pos} {x : Str}
theorem eIsNot (c : NotC X.K C) (hi : X.mg "isinstance" = none) (hm : X.mg x = some (.ref C)) (h : EV X e ss ts fun s r => d1K (fun d => tyD d = true ∧ Φ s (.own (.bl false))) r)
    (hg : Gl X "isinstance" := by rfl) (hgx : Gl X x := by rfl) (hd : (x == ("__debug__" : Str)) = false := by decide)
    (hs : starEach [e, .Name x px] X.env = (false, eval e X.env) :: starEach [.Name x px] X.env := by rfl) (hs2 : starEach [.Name x px] X.env = (false, eval (.Name x px) X.env) :: starEach [] X.env := by rfl) (hpl : (backTo pos (starEach [.Name x px] X.env)).any (·.1) = false := by rfl) : EV X (.Call (.Name "isinstance" p) [e, .Name x px] [] pos) ss ts Φ := by
  refine fun m B σ tv H Q hm' hh kk => ?_
  refine toE (pe_callB (call_isN c) hg hi (by decide +kernel) (pa_cons pe_w (pa_cons pe_w pa_nil hs2) hs) (he := hs) (hpl := hpl)) ?_
  refine h m B σ tv H _ hm' hh fun s1 r1 v H1 h1 hh1 => ?_
  obtain ⟨d, i0, td, q⟩ := d1K_of h1
  refine ev_cls (ts := r1 :: ts) hm (Φ := fun s r => s = s1 ∧ r = .own (.raw (.ref C))) ⟨rfl, rfl⟩ hgx hd m B σ (v :: tv) H1 _ hm'.up hh1 fun s2 r2 u H2 ⟨e1, e2⟩ hh2 => ?_
  subst e1 e2
  have zu := hh2.top Slot.is_own
  rw [rep_raw] at zu
  subst zu
  obtain ⟨T, hT, hy⟩ := tyD_V td (hh2.top2 i0)
  exact ⟨v, T, rfl, hT, hy, kk s2 _ _ H2 q (((hh2.pop hm'.up).pop hm').pushF o_bl)⟩
end
end DL
namespace DL
open PySem PySem.Spec PyProof.Rows L2
section
variable {K : PySem.W.Frag} {m : Nat → Prop} {B H : Hp} {σ : List (Option V)} {ss ts : List Slot} {tv : List V} {fp : Own → List Addr} {o : Own}
theorem HeldF.pushIts {r : Slot} {n : Nat} : ∀ {ds : List D} {vs : List V} {fp : Own → List Addr}, HeldF K m B H fp σ ss tv ts → RepRs K H ds vs → (∀ (i : Nat) (d : D) (v : V), ds[i]? = some d → vs[i]? = some v → SlotOk K B H fp m o (some v) (sub n r d)) →
    ∃ fp', HeldF K m B H fp' σ ss (vs ++ tv) (ds.map (it n r) ++ ts) ∧ ∀ (d : D) (v : V), SlotOk K B H fp m o (some v) (sub n r d) → SlotOk K B H fp' m o (some v) (sub n r d)
  | [], vs, fp, h, rr, _ => by
    unfold RepRs at rr
    subst rr
    exact ⟨fp, h, fun _ _ q => q⟩
  | d :: ds, vs, fp, h, rr, q => by
    unfold RepRs at rr
    obtain ⟨w, ws, rfl, r1, r2⟩ := rr
    obtain ⟨fp1, h1, k1⟩ := HeldF.pushIts (r := r) (n := n) h r2 fun i d v e1 e2 => q (i + 1) d v (by simpa using e1) (by simpa using e2)
    have q1 := k1 d w (q 0 d w rfl rfl)
    exact ⟨_, h1.pushIt r1 q1, fun d2 v2 q2 => (k1 d2 v2 q2).later h1⟩
end
section
variable {X : Cx} {ss ts : List Slot} {Φ : List Slot → Slot → Prop} {N : List Slot → Prop} {es : List Expr} {pos apos px : Pos} {x : Str}
theorem gv_tupV {as : List Nat} {n : Nat} {o : Own} {ds : List D} {k : Nat} (hc : X.calm = true) (hl : ds.length = n) (h : GsV X es as (ds.map (it 0 (.view o .non))) ss ts N)
    (hn : (assignEach es X.env).length = n := by rfl) (hst : (assignEach es X.env).findIdx? (·.1) = none := by rfl) : GV X (.Tuple es k pos) as (.one (.view o (.tup ds))) ss ts N := fun m B σ tv H v Q hm hh kk => by
  obtain ⟨fp, hf⟩ := hh
  have q := hf.tmp ts.length (.view o (.tup ds)) (by simp)
  have tl := hf.tlen
  obtain ⟨z, w, e1, r1⟩ := q
  have e2 : v = w := by
    have e3 : tv.length = ts.length := by simpa using tl
    rw [List.reverse_cons, List.getElem?_append_right (by simp [e3]), List.length_reverse, e3, Nat.sub_self] at e1
    exact Option.some.inj e1
  subst e2
  have r2 := r1
  unfold RepR at r2
  obtain ⟨a, vs, rfl, sq, rr⟩ := r2
  have rrH := rr.mono restr_ex
  have sqH : SqT X.K H a vs := Ex.sqt restr_ex sq
  obtain ⟨fp', h2, _⟩ := HeldF.pushIts (o := .t ts.length) (r := .view o .non) (n := 0) (hf.pop hm) rrH fun i d v e1 e2 => ⟨z, v, rfl, by
    obtain ⟨w, w1, w2⟩ := rr.get e1
    rw [e2] at w1
    cases w1
    exact w2⟩
  refine toG (pg_tup hc pgs_w hn hst) ⟨a, _, rfl, sqH, rrH.length.trans hl, ?_⟩
  exact h m B σ tv H _ Q hm (by rw [rrH.length, List.length_map]) ⟨fp', h2⟩ kk
end
end DL
namespace DL
open PySem PySem.Spec PyProof.Rows L2
section
variable {K : PySem.W.Frag} {m : Nat → Prop} {B H : Hp} {σ : List (Option V)} {ss ts : List Slot} {tv : List V} {fp : Own → List Addr}
theorem RepOs.rows : ∀ {P R : List D} {vs : List V} {G : List Addr} {d : D}, RepOs K H (P ++ d :: R) vs G → ∃ G1 F G2 v, G = G1 ++ (F ++ G2) ∧ vs[P.length]? = some v ∧ RepO K H d v F ∧ ∀ d' F', RepO K H d' v F' → RepOs K H (P ++ d' :: R) vs (G1 ++ (F' ++ G2))
  | [], R, vs, G, d, r => by
    have r : RepOs K H (d :: R) vs G := r
    unfold RepOs at r
    obtain ⟨w, ws, F1, F2, rfl, rfl, r1, r2⟩ := r
    refine ⟨[], F1, F2, w, rfl, rfl, r1, fun d' F' r' => ?_⟩
    show RepOs K H (d' :: R) (w :: ws) (F' ++ F2)
    unfold RepOs
    exact ⟨w, ws, F', F2, rfl, rfl, r', r2⟩
  | p :: P, R, vs, G, d, r => by
    have r : RepOs K H (p :: (P ++ d :: R)) vs G := r
    unfold RepOs at r
    obtain ⟨w, ws, F1, F2, rfl, rfl, r1, r2⟩ := r
    obtain ⟨G1, F, G2, v, rfl, e2, r3, k⟩ := RepOs.rows r2
    refine ⟨F1 ++ G1, F, G2, v, by simp, by simpa using e2, r3, fun d' F' r' => ?_⟩
    show RepOs K H (p :: (P ++ d' :: R)) (w :: ws) ((F1 ++ G1) ++ (F' ++ G2))
    unfold RepOs
    exact ⟨w, ws, F1, G1 ++ (F' ++ G2), rfl, by simp, r1, k d' F' r'⟩
end
end DL
namespace DL
open PySem PySem.Spec PyProof.Rows L2
section
variable {X : Cx} {fx : List Nat} {ss ts : List Slot} {Φ : List Slot → Slot → Prop} {Θ : List Slot → Bool → Prop} {e a b e1 e2 : Expr} {pos p p' p1 p2 p3 p4 : Pos} {x y : Str} {C : Addr} {k j n : Nat} {ps ks : List Str} {is : List Nat} {fa : Addr} {fd : FuncData} {dds : List D} {kws : List Keyword} {F : List D → (D → Prop) → Prop}
structure MakeK (P : Program) (w : World) (K : PySem.W.Frag) (mg : Str → Option Value) (base : Heap) (k : Nat) (x : Str) (C : Addr) (ps : List Str) (f : Addr) (fd : FuncData) (ks : List Str) (is : List Nat) (F : D → List D → (D → D → Prop) → Prop) : Prop where
  ok : FnOk P w K mg base CX0 k f fd ps (spI K F)
  mkr : Mk K C f
  nm : mg x = some (.ref C)
  kb : ∃ (its : List Value) (dvs : List V), KBn K fd ps 1 ks (fun us ws => pick is (us ++ its ++ ws)) (fun vs zs => pick is (vs ++ dvs ++ zs)) ∧ ∀ H, RepRs K H [] dvs
theorem eFsII {b : Str} (h : EV X e1 ss ts fun s1 r1 => i1K (fun i => (i.natAbs.log2 < 1920 ∧ (((toString i : String) : Str) ++ b).length ≤ 1000000) ∧ EV X e2 s1 ts fun s r2 => i1K (fun j => j.natAbs.log2 < 1920 ∧ (((toString i : String) : Str) ++ b ++ ((toString j : String) : Str)).length ≤ 1000000 ∧
      Φ s (.own (.str (((toString i : String) : Str) ++ b ++ ((toString j : String) : Str))))) r2) r1) {kk : Nat} : EV X (.JoinedStr [.FormattedValue e1 (-1) none p1, .Constant (.str b) kk p2, .FormattedValue e2 (-1) none p3] pos) ss ts Φ := fun m B σ tv H Q hm hh kc => by
  refine toE (pe_joined (.cons (pe_fmt pe_w) (.cons pe_str (.cons (pe_fmt pe_w) .nil)))) ?_
  refine h m B σ tv H _ hm hh fun s1 r1 x H1 hq hh1 => ?_
  obtain ⟨i, er, ⟨li, l1⟩, h2⟩ := i1K_of hq
  have z := hh1.top (d := .int i) (by rw [er]; exact Slot.is_own)
  rw [rep_int] at z
  subst z
  have big : (1000000 : Nat) ≤ sizeLine := by decide
  refine .inr ⟨i, rfl, li, _, rfl, ?_, b, rfl, ?_, ?_⟩
  · rw [str_none]; exact int_text_fits li
  · rw [str_none]
    exact Nat.le_trans l1 big
  · refine h2 m B σ tv H1 _ hm (hh1.pop hm) fun s r x H2 hq2 hh2 => ?_
    obtain ⟨j, er2, lj, l2, q⟩ := i1K_of hq2
    have z := hh2.top (d := .int j) (by rw [er2]; exact Slot.is_own)
    rw [rep_int] at z
    subst z
    refine .inr ⟨j, rfl, lj, _, rfl, ?_, ?_⟩
    · rw [str_none]
      exact Nat.le_trans l2 big
    · rw [str_none]
      exact kc s _ _ H2 q ((hh2.pop hm).pushF o_str)
end
end DL
namespace DL
open PySem PySem.Spec PyProof.Rows L2
section
variable {K : PySem.W.Frag} {m : Nat → Prop} {B H H' : Hp} {σ : List (Option V)} {tv vs : List V} {v x : V} {fp : Own → List Addr} {d d0 d' d1 : D} {n : Nat} {ss ts rs : List Slot} {r : Slot} {ds : List D} {o : Own}
def sw : Own → Own
  | .v 0 => .v 1
  | .v 1 => .v 0
  | o => o
end
end DL
namespace DL
open PySem PySem.Spec PyProof.Rows L2
theorem FnOk.or {P : Program} {w : World} {K : PySem.W.Frag} {mg : Str → Option Value} {base : Heap} {CX : CXT} {k : Nat} {f : Addr} {fd : FuncData} {ps : List Str} {F G : List D → (D → Prop) → Prop} (h : FnOk P w K mg base CX k f fd ps (spP K F)) (g : FnOk P w K mg base CX k f fd ps (spP K G)) :
    FnOk P w K mg base CX k f fd ps (spP K fun ds k => F ds k ∨ G ds k) := by
  have cs : ∀ vs H Q E, spP K (fun ds k => F ds k ∨ G ds k) vs H Q E → spP K F vs H Q E ∨ spP K G vs H Q E := fun vs H Q E q => by
    obtain ⟨B, ss, hh, ds, k, e, hF, hr⟩ := q
    rcases hF with hF | hF
    · exact .inl ⟨B, ss, hh, ds, k, e, hF, hr⟩
    · exact .inr ⟨B, ss, hh, ds, k, e, hF, hr⟩
  refine ⟨fun vs H Q E q => (cs vs H Q E q).elim (h.len vs H Q E) (g.len vs H Q E), fun A outer s H args us vs Q E hr he hb hv hs => ?_⟩
  exact (cs vs H Q E hs).elim (h.run A outer s H args us vs Q E hr he hb hv) (g.run A outer s H args us vs Q E hr he hb hv)
end DL
namespace DL
open PySem PySem.Spec PyProof.Rows L2
def nobB : Option (Option Value) → Bool
  | some none => true
  | _ => false
theorem nobB_ok {o : Option (Option Value)} (h : nobB o = true) : o = some none := by
  unfold nobB at h
  split at h
  · rfl
  · cases h
def txtB (K : PySem.W.Frag) (x : Str) : Bool := nobB (PySem.W.findIn K (.ref (He.ga K x)) "__bool__") && (["NoneType", "str", "list"].all fun T => PySem.W.isNotIn K T (He.ga K x) && PySem.W.notFirst K (He.ga K x) (.type T))
theorem txtB_ok {K : PySem.W.Frag} {x : Str} (h : txtB K x = true) : NoBool K (He.ga K x) ∧ NotC K (He.ga K x) := by
  obtain ⟨h1, h2⟩ := He.ba h
  have q : ∀ T, T = "NoneType" ∨ T = "str" ∨ T = "list" → PySem.W.isNotIn K T (He.ga K x) = true ∧ PySem.W.notFirst K (He.ga K x) (.type T) = true := fun T hT => by
    have := List.all_eq_true.mp h2 T (by rcases hT with rfl | rfl | rfl <;> simp)
    exact He.ba this
  exact ⟨nobB_ok h1, ⟨fun T hT => (q T hT).1, fun T hT => (q T hT).2⟩⟩
def withTxt (eb : PySem.W.Frag → Bool) (l : List Str) (K : PySem.W.Frag) : Bool := eb K && l.all (txtB K)
end DL
namespace DL
open PySem PySem.Spec PyProof.Rows L2
section
variable {X : Cx} {ss ts : List Slot} {a l b : Expr} {pos p p2 : Pos} {Φ : List Slot → Slot → Prop}
theorem eIntS (hm : X.mg "int" = none) (h : EV X a ss ts fun s r => s1K (fun x => ∃ n, PySem.intText? x = some n ∧ x.length ≤ 640 ∧ Φ s (.own (.int n))) r) (hg : Gl X "int" := by rfl)
    (he : starEach [a] X.env = (false, eval a X.env) :: starEach [] X.env := by rfl) (hpl : (backTo pos (starEach [] X.env)).any (·.1) = false := by rfl) : EV X (.Call (.Name "int" p) [a] [] pos) ss ts Φ :=
  ev_callTy call_int_str hg hm (by decide +kernel) (av_cons (h.imp fun s r h2 => by
    obtain ⟨x, rfl, n, hn, hl, q⟩ := s1K_of h2
    refine av_nil ⟨[.str x], fun d => d = .int n, ⟨Slot.is_own, trivial⟩, fun H vs Q rr k => ?_, fun d hd => by rw [hd]; exact q⟩
    obtain ⟨v, rfl, hv⟩ := reps1 rr
    rw [rep_str] at hv
    exact ⟨x, n, by rw [hv], hn, hl, k _ _ H rfl (.flat o_int)⟩) he) (he := he) (hpl := hpl)
end
end DL
namespace DL
open PySem PySem.Spec PyProof.Rows L2
theorem tT {P Q : Prop} (h : P) : (true = true → P) ∧ (true = false → Q) := ⟨fun _ => h, fun z => nomatch z⟩
theorem tF {P Q : Prop} (h : Q) : (false = true → P) ∧ (false = false → Q) := ⟨fun z => (nomatch z), fun _ => h⟩
section
variable {X : Cx} {ss ts : List Slot} {Φ : List Slot → Slot → Prop} {Θ : List Slot → Bool → Prop} {e e2 l a b tg : Expr} {elts : List Expr} {pos p tpos px py : Pos} {x y : Str} {kk : Nat} {Ψ : List Slot → List Slot → List El → Prop}
theorem wStr (h : EV X l ss ts fun s r => s1K (fun x => Ψ s [] (x.cps.toList.map fun c => .one (.own (.str ⟨#[c]⟩)))) r) : IV X tg l ss ts Ψ :=
  iv_str (h.imp fun s r h => by
    obtain ⟨x, e, q⟩ := s1K_of h
    exact ⟨x, by rw [e]; exact Slot.is_own, q⟩)
theorem eInC (h : EV X a ss ts fun s1 r1 => EV X b s1 (r1 :: ts) fun s r2 => s1K (fun y => s1K (fun z => ∃ c, y = ⟨#[c]⟩ ∧ Φ s (.own (.bl (decide (c ∈ z.cps.toList))))) r2) r1) (hb : behindInMarks .In b = false := by rfl) : EV X (.Compare a [.In] [b] pos) ss ts Φ :=
  ev_cmp2 op_in_sign hb (h.imp fun s1 r1 h1 => h1.imp fun s r2 h2 => by
    obtain ⟨y, rfl, h3⟩ := s1K_of h2
    obtain ⟨z, rfl, c, rfl, q⟩ := s1K_of h3
    exact ⟨_, _, .bl _, Slot.is_own, Slot.is_own, fun H u w rx ry => ⟨_, fun H => o_bl, fun Q q => by
      rw [rep_str] at rx ry
      exact ⟨c, z, rx, ry, q⟩⟩, q⟩)
theorem gloInt {K : PySem.W.Frag} {mg : Str → Option Value} {x : Str} {i : Int} (h : ∃ t, mg x = some (.int i t)) : GloD K mg x (.int i) := by
  obtain ⟨t, h⟩ := h
  exact ⟨_, .int i, h, ⟨t, rfl⟩, fun H => o_int⟩
theorem gloStr {K : PySem.W.Frag} {mg : Str → Option Value} {x z : Str} (h : ∃ t, mg x = some (.str z t)) : GloD K mg x (.str z) := by
  obtain ⟨t, h⟩ := h
  exact ⟨_, .str z, h, ⟨t, rfl⟩, fun H => o_str⟩
end
end DL
namespace DL
open PySem PySem.Spec PyProof.Rows L2 TL
abbrev istr (i : Int) : Str := ((toString i : String) : Str)
def numT (x : Rat) : Str := if x.den = 1 then istr x.num else istr x.num ++ "/" ++ istr (x.den : Int)
def rowT (r : List Rat) : Str := Txt.join " " (r.map numT)
def tabT (R : List (List Rat)) : Str := Txt.join "; " (R.map rowT)
theorem tl_nat (n : Nat) : tl (istr (n : Int)) = numL n := tl_num n
theorem tl_neg {i : Int} (h : i < 0) : tl (istr i) = 45 :: numL i.natAbs := by
  obtain ⟨n, rfl⟩ : ∃ n : Nat, i = Int.negSucc n := ⟨i.natAbs - 1, by omega⟩
  show tl (Str.ofString (toString (Int.negSucc n))) = _
  have e : toString (Int.negSucc n) = "-" ++ toString (n + 1) := rfl
  rw [e, tl_ofString, String.toList_append, List.map_append]
  have z := tl_num (n + 1)
  rw [tl_ofString] at z
  show 45 :: _ = 45 :: numL (n + 1)
  rw [← z]
  rfl
theorem numL_head {n : Nat} (h : (numL n).head? = some 48) : n = 0 := by
  induction n using Nat.strongRecOn with
  | _ n ih =>
    by_cases h10 : n < 10
    · rw [numL_lt h10] at h
      have : 48 + n = 48 := Option.some.inj h
      omega
    · rw [numL_step (by omega), List.head?_append] at h
      cases e : (numL (n / 10)).head? with
      | none => rw [List.head?_eq_none_iff] at e; exact absurd e (numL_ne _)
      | some c =>
        rw [e] at h
        have h : c = 48 := Option.some.inj h
        subst h
        have := ih (n / 10) (by omega) e
        omega
def okC (t : Str) : Prop := (t.cps.toList ≠ [] ∧ t.length ≤ 40) ∧ (t.cps.toList.head? = some 48 → t.cps.toList = [48]) ∧ NumText.AllDigits t.cps.toList
theorem ok_num {n : Nat} (h : n < 10 ^ 40) : okC (istr (n : Int)) := by
  unfold okC
  rw [len_tl, show (istr (n : Int)).cps.toList = numL n from tl_nat n, tl_nat]
  refine ⟨⟨numL_ne n, numL_len (by decide) h⟩, fun z => ?_, numL_digits n⟩
  rw [numL_head z]
  rfl
theorem cutS_cps (z : Str) (lo hi : Option Int) : (cutS z lo hi).cps.toList = (z.cps.toList.drop (HT.sIx z.length 0 lo)).take (HT.sIx z.length z.length hi - HT.sIx z.length 0 lo) := rfl
theorem cut0 (z : Str) : cutS z (some 0) none = z := by
  refine ext_tl ?_
  show (cutS z (some 0) none).cps.toList = _
  rw [cutS_cps, HT.sIx_none, show (0 : Int) = ((0 : Nat) : Int) from rfl, HT.sIx_nat, Nat.zero_min, List.drop_zero, Nat.sub_zero, List.take_of_length_le (by rw [len_tl]; exact Nat.le_refl _)]
theorem cut1 (z : Str) : (cutS z (some 1) none).cps.toList = z.cps.toList.drop 1 := by
  rw [cutS_cps, HT.sIx_none, show (1 : Int) = ((1 : Nat) : Int) from rfl, HT.sIx_nat, List.take_of_length_le (by rw [List.length_drop, len_tl]; exact Nat.le_refl _)]
  by_cases h : 1 ≤ z.length
  · rw [Nat.min_eq_left h]
  · rw [len_tl] at h
    have : z.cps.toList = [] := List.eq_nil_of_length_eq_zero (by show (tl z).length = 0; omega)
    rw [this, List.drop_nil, List.drop_nil]
theorem cutH (z : Str) : (cutS z none (some 1)).cps.toList = z.cps.toList.take 1 := by
  rw [cutS_cps, HT.sIx_none, show (1 : Int) = ((1 : Nat) : Int) from rfl, HT.sIx_nat, List.drop_zero, Nat.sub_zero]
  by_cases h : 1 ≤ z.length
  · rw [Nat.min_eq_left h]
  · rw [len_tl] at h
    have : z.cps.toList = [] := List.eq_nil_of_length_eq_zero (by show (tl z).length = 0; omega)
    rw [this, List.take_nil, List.take_nil]
def neg (t : Str) : Bool := decide (t.cps.toList.head? = some 45)
theorem cut_neg (t : Str) : decide (cutS t none (some 1) = ("-" : Str)) = neg t := by
  have m : ("-" : Str).cps.toList = [45] := by decide +kernel
  refine decide_eq_decide.mpr ⟨fun e => ?_, fun e => ?_⟩
  · have := cutH t
    rw [e, m] at this
    cases h : t.cps.toList with
    | nil => rw [h] at this; cases this
    | cons c l =>
      rw [h] at this
      have : [45] = [c] := this
      cases this
      rfl
  · refine str_ext ?_
    rw [cutH, m]
    cases h : t.cps.toList with
    | nil => rw [h] at e; cases e
    | cons c l =>
      rw [h] at e
      have : c = 45 := Option.some.inj e
      subst this
      rfl
theorem starts_neg (t : Str) : Txt.startswith t "-" = neg t := by
  have m : ("-" : Str).cps.toList = [45] := by decide +kernel
  have ml : ("-" : Str).length = 1 := by decide +kernel
  unfold Txt.startswith Builtin.Str.subAt
  rw [ml, Nat.zero_add]
  unfold neg
  cases h : t.cps.toList with
  | nil =>
    have : t.length = 0 := by rw [len_tl]; show t.cps.toList.length = 0; rw [h]; rfl
    rw [this]
    rfl
  | cons c l =>
    have hl : decide (1 ≤ t.length) = true := decide_eq_true (by rw [len_tl]; show 1 ≤ t.cps.toList.length; rw [h]; show 1 ≤ l.length + 1; omega)
    rw [hl, Bool.true_and]
    have e : (t.cps.extract 0 1).toList = [c] := by
      rw [Array.toList_extract, h]
      rfl
    rw [Bool.eq_iff_iff, beq_iff_eq, decide_eq_true_eq]
    constructor
    · intro q
      have := congrArg Array.toList q
      rw [e, m] at this
      cases this
      rfl
    · intro q
      have : c = 45 := Option.some.inj q
      subst this
      refine Array.ext' ?_
      rw [e, m]
theorem atI_head {α : Type} {c : α} {l : List α} : atI (c :: l) 0 = some c := by
  unfold atI
  rw [show (0 : Int) = ((0 : Nat) : Int) from rfl, ixN_of (by simp)]
  rfl
abbrev cntV (t : Str) : Nat := NumText.digitsVal t.cps.toList
theorem cnt_num (n : Nat) : cntV (istr (n : Int)) = n := by
  show NumText.digitsVal (tl (istr (n : Int))) = n
  rw [tl_nat, numL_val]
theorem int_ok {t : Str} (h : okC t) : intText? t = some ((cntV t : Nat) : Int) := PySem.intText_digits h.2.2 h.1.1 (by have := h.1.2; omega)
theorem cntV_lt {t : Str} (h : okC t) : cntV t < 2 ^ 160 := by
  have b : ∀ (l : List Nat) (a k : Nat), NumText.AllDigits l → a < 2 ^ (4 * k) → l.foldl (fun acc c => acc * 10 + (c - 48)) a < 2 ^ (4 * (k + l.length)) := by
    intro l
    induction l with
    | nil => intro a k _ h; exact h
    | cons c l ih =>
      intro a k hd ha
      rw [List.foldl_cons, List.length_cons, show k + (l.length + 1) = (k + 1) + l.length by omega]
      refine ih _ (k + 1) (fun d hd2 => hd d (List.mem_cons_of_mem _ hd2)) ?_
      have c9 := hd c List.mem_cons_self
      have e : 2 ^ (4 * (k + 1)) = 2 ^ (4 * k) * 16 := by rw [show 4 * (k + 1) = 4 * k + 4 by omega, Nat.pow_add]
      omega
  have z := b t.cps.toList 0 0 h.2.2 (by decide)
  have l := h.1.2
  rw [len_tl] at l
  exact Nat.lt_of_lt_of_le z (Nat.pow_le_pow_right (by decide) (by have : t.cps.toList.length ≤ 40 := l; omega))
inductive Frac (t : Str) : Rat → Prop where
  | whole {n : Nat} {a : Str} (hp : Txt.partition (cutS t (some (if neg t then 1 else 0)) none) "/" = (a, Str.empty, Str.empty)) (ok : okC a) (e : n = cntV a) (h0 : t ≠ "-0") : Frac t (Rat.divInt (if neg t then -(n : Int) else n) 1)
  | part {n d : Nat} {a b : Str} (hp : Txt.partition (cutS t (some (if neg t then 1 else 0)) none) "/" = (a, ("/" : Str), b)) (ok : okC a) (ok2 : okC b) (e : n = cntV a) (e2 : d = cntV b) (hd : 2 ≤ d) (h0 : t ≠ "-0") (hg : Nat.gcd n d = 1) : Frac t (Rat.divInt (if neg t then -(n : Int) else n) d)
theorem tl_slash : tl ("/" : Str) = [47] := by decide +kernel
theorem part_two (x : Str) : (∃ a b, Txt.partition x "/" = (a, ("/" : Str), b) ∧ a.length ≤ x.length ∧ b.length ≤ x.length) ∨ Txt.partition x "/" = (x, Str.empty, Str.empty) := by
  have z := partition_par x "/" (by rw [tl_slash]; exact fun z => nomatch z)
  have f := PyProof.Rows.fact_partition x "/"
  cases e : par (tl ("/" : Str)) [] (tl x) with
  | none => rw [e] at z; exact .inr z
  | some p =>
    rw [e] at z
    rw [z] at f
    exact .inl ⟨_, _, z, f.1, f.2.2⟩
theorem slash_ne : ("/" : Str) ≠ Str.empty := by decide +kernel
theorem frac_num {x : Rat} (h1 : x.num.natAbs < 10 ^ 40) (h2 : x.den < 10 ^ 40) : Frac (numT x) x := by
  have hn : (istr (x.num.natAbs : Int)).cps.toList = numL x.num.natAbs := tl_nat _
  have hd : (istr (x.den : Int)).cps.toList = numL x.den := tl_nat _
  have e0 : (if x.num < 0 then -((x.num.natAbs : Nat) : Int) else ((x.num.natAbs : Nat) : Int)) = x.num := by split <;> omega
  have dp := x.den_pos
  have head : ∀ {n : Nat} {l : List Nat}, (numL n ++ l).head? ≠ some 45 := fun {n l} z => by
    rw [List.head?_append] at z
    cases e : (numL n).head? with
    | none => rw [List.head?_eq_none_iff] at e; exact absurd e (numL_ne _)
    | some c =>
      rw [e] at z
      have z : c = 45 := Option.some.inj z
      subst z
      exact numL_free (n := n) (s := 45) (by omega) (List.mem_of_mem_head? e)
  -- the text
  obtain ⟨tail, et, hT⟩ : ∃ tail : List Nat, (numT x).cps.toList = (if x.num < 0 then [45] else []) ++ (numL x.num.natAbs ++ tail) ∧ tail = (if x.den = 1 then [] else 47 :: numL x.den) := by
    refine ⟨_, ?_, rfl⟩
    have es : (istr x.num).cps.toList = (if x.num < 0 then [45] else []) ++ numL x.num.natAbs := by
      by_cases hneg : x.num < 0
      · rw [if_pos hneg]; exact tl_neg hneg
      · rw [if_neg hneg]
        obtain ⟨n, hn⟩ : ∃ n : Nat, x.num = (n : Int) := ⟨x.num.natAbs, by omega⟩
        rw [hn]
        exact tl_nat n
    unfold numT
    split
    · rename_i e
      rw [es, List.append_nil]
    · rename_i e
      rw [str_app_cps, str_app_cps, es, hd, show ("/" : Str).cps.toList = [47] from tl_slash]
      simp
  have hneg : neg (numT x) = decide (x.num < 0) := by
    unfold neg
    rw [et]
    by_cases hq : x.num < 0
    · rw [if_pos hq, decide_eq_true hq]; rfl
    · rw [if_neg hq, decide_eq_false hq, List.nil_append, decide_eq_false head]
  have ecut : (cutS (numT x) (some (if neg (numT x) then 1 else 0)) none).cps.toList = numL x.num.natAbs ++ tail := by
    rw [hneg]
    by_cases hq : x.num < 0
    · rw [decide_eq_true hq, if_pos rfl, cut1, et, if_pos hq]; rfl
    · rw [decide_eq_false hq, if_neg (by decide), cut0, et, if_neg hq]; rfl
  have h0 : numT x ≠ "-0" := fun z => by
    have m : ("-0" : Str).cps.toList = [45, 48] := by decide +kernel
    have this : (numT x).cps.toList = ("-0" : Str).cps.toList := by rw [z]
    rw [et, m] at this
    by_cases hq : x.num < 0
    · rw [if_pos hq] at this
      have this : numL x.num.natAbs ++ tail = [48] := (List.cons.inj this).2
      have hh : (numL x.num.natAbs).head? = some 48 := by
        cases e : numL x.num.natAbs with
        | nil => exact absurd e (numL_ne _)
        | cons c l =>
          rw [e] at this
          have := (List.cons.inj this).1
          rw [this]
          rfl
      have := numL_head hh
      omega
    · rw [if_neg hq, List.nil_append] at this
      exact head (n := x.num.natAbs) (l := tail) (by rw [this]; rfl)
  have free : (47 : Nat) ∉ numL x.num.natAbs := numL_free (by omega)
  by_cases d1 : x.den = 1
  · rw [if_pos d1] at hT
    subst hT
    rw [List.append_nil] at ecut
    have ec : cutS (numT x) (some (if neg (numT x) then 1 else 0)) none = istr (x.num.natAbs : Int) := str_ext (by rw [ecut, hn])
    have z := Frac.whole (t := numT x) (n := x.num.natAbs) (a := istr (x.num.natAbs : Int)) (by rw [ec]; exact partition_none (s := 47) (S := []) tl_slash (by rw [show tl (istr (x.num.natAbs : Int)) = _ from hn]; exact free)) (ok_num h1) (cnt_num _).symm h0
    rw [hneg] at z
    have e : Rat.divInt (if decide (x.num < 0) = true then -((x.num.natAbs : Nat) : Int) else ((x.num.natAbs : Nat) : Int)) 1 = x := by
      have := Rat.num_divInt_den x
      rw [d1] at this
      rw [← e0] at this
      simpa using this
    rw [e] at z
    exact z
  · rw [if_neg d1] at hT
    subst hT
    have ec : cutS (numT x) (some (if neg (numT x) then 1 else 0)) none = istr (x.num.natAbs : Int) ++ "/" ++ istr (x.den : Int) := str_ext (by rw [ecut, str_app_cps, str_app_cps, hn, hd, show ("/" : Str).cps.toList = [47] from tl_slash]; simp)
    have z := Frac.part (t := numT x) (n := x.num.natAbs) (d := x.den) (a := istr (x.num.natAbs : Int)) (b := istr (x.den : Int)) (by rw [ec]; exact partition_app (s := 47) (S := []) tl_slash (by rw [show tl (istr (x.num.natAbs : Int)) = _ from hn]; exact free)) (ok_num h1) (ok_num h2) (cnt_num _).symm (cnt_num _).symm (by omega) h0 x.reduced
    rw [hneg] at z
    have e : Rat.divInt (if decide (x.num < 0) = true then -((x.num.natAbs : Nat) : Int) else ((x.num.natAbs : Nat) : Int)) (x.den : Int) = x := by
      have := Rat.num_divInt_den x
      rw [← e0] at this
      simpa using this
    rw [e] at z
    exact z
end DL
namespace DL
open PySem PySem.Spec PyProof.Rows L2 TL
theorem Frac.uniq {t : Str} {x y : Rat} (h : Frac t x) (g : Frac t y) : x = y := by
  cases h with
  | whole hp ok e h0 =>
    cases g with
    | whole hp2 ok2 e2 h02 =>
      rw [hp] at hp2
      injection hp2 with h1 _
      subst h1
      rw [e, e2]
    | part hp2 => rw [hp] at hp2; injection hp2 with _ h2; injection h2 with h2 _; exact absurd h2.symm slash_ne
  | part hp ok ok2 e e2 hd h0 hg =>
    cases g with
    | whole hp2 => rw [hp] at hp2; injection hp2 with _ h2; injection h2 with h2 _; exact absurd h2 slash_ne
    | part hp2 ok3 ok4 e3 e4 hd2 h02 hg2 =>
      rw [hp] at hp2
      injection hp2 with h1 h2
      injection h2 with _ h2
      subst h1 h2
      rw [e, e2, e3, e4]
structure Nm (x : Rat) : Prop where
  top : x.num.natAbs < 10 ^ 40
  bot : x.den < 10 ^ 40
theorem Nm.sz {x : Rat} (h : Nm x) : Sz 1000 x := by
  have p : 10 ^ 40 < 2 ^ 1000 := by decide +kernel
  exact ⟨Nat.lt_trans h.top p, by rw [Int.natAbs_natCast]; exact Nat.lt_trans h.bot p⟩
theorem tl_istr {i : Int} {c : Nat} (h : c ∈ tl (istr i)) : (48 ≤ c ∧ c ≤ 57) ∨ c = 45 := by
  by_cases hn : i < 0
  · rw [tl_neg hn] at h
    rcases List.mem_cons.mp h with h | h
    · exact .inr h
    · exact .inl (numL_digits _ c h)
  · obtain ⟨n, rfl⟩ : ∃ n : Nat, i = (n : Int) := ⟨i.toNat, by omega⟩
    rw [tl_nat] at h
    exact .inl (numL_digits _ c h)
theorem tl_numT {x : Rat} {c : Nat} (h : c ∈ tl (numT x)) : (48 ≤ c ∧ c ≤ 57) ∨ c = 45 ∨ c = 47 := by
  unfold numT at h
  split at h
  · rcases tl_istr h with h | h
    · exact .inl h
    · exact .inr (.inl h)
  · rw [tl_append, tl_append, tl_slash] at h
    rcases List.mem_append.mp h with h | h
    · rcases List.mem_append.mp h with h | h
      · rcases tl_istr h with h | h
        · exact .inl h
        · exact .inr (.inl h)
      · exact .inr (.inr (List.mem_singleton.mp h))
    · rcases tl_istr h with h | h
      · exact .inl h
      · exact .inr (.inl h)
theorem mem_joinL {S : List Nat} {c : Nat} : ∀ {ps : List (List Nat)}, c ∈ joinL S ps → c ∈ S ∨ ∃ p, p ∈ ps ∧ c ∈ p
  | [], h => by cases h
  | [p], h => .inr ⟨p, List.mem_cons_self, h⟩
  | p :: q :: r, h => by
    have h : c ∈ p ++ (S ++ joinL S (q :: r)) := h
    rcases List.mem_append.mp h with h | h
    · exact .inr ⟨p, List.mem_cons_self, h⟩
    · rcases List.mem_append.mp h with h | h
      · exact .inl h
      · rcases mem_joinL h with h | ⟨p', h1, h2⟩
        · exact .inl h
        · exact .inr ⟨p', List.mem_cons_of_mem _ h1, h2⟩
theorem mem_join {y : Str} {c : Nat} {ps : List Str} (h : c ∈ tl (Txt.join y ps)) : c ∈ tl y ∨ ∃ p, p ∈ ps ∧ c ∈ tl p := by
  rw [join_eq, tl_join] at h
  rcases mem_joinL h with h | ⟨p, h1, h2⟩
  · exact .inl h
  · obtain ⟨q, hq, rfl⟩ := List.mem_map.mp h1
    exact .inr ⟨q, hq, h2⟩
theorem tl_blank : tl (" " : Str) = [32] := by decide +kernel
theorem tl_semi : tl ("; " : Str) = [59, 32] := by decide +kernel
theorem tl_rowT {r : List Rat} {c : Nat} (h : c ∈ tl (rowT r)) : (48 ≤ c ∧ c ≤ 57) ∨ c = 45 ∨ c = 47 ∨ c = 32 := by
  rcases mem_join h with h | ⟨p, hp, h⟩
  · rw [tl_blank] at h
    exact .inr (.inr (.inr (List.mem_singleton.mp h)))
  · obtain ⟨x, _, rfl⟩ := List.mem_map.mp hp
    rcases tl_numT h with h | h | h
    · exact .inl h
    · exact .inr (.inl h)
    · exact .inr (.inr (.inl h))
theorem split_row {r : List Rat} (h : r ≠ []) : Txt.split (rowT r) " " = r.map numT :=
  split_join (s := 32) (S := []) tl_blank (by decide +kernel) (fun z => h (List.map_eq_nil_iff.mp z)) fun p hp z => by
    obtain ⟨x, _, rfl⟩ := List.mem_map.mp hp
    rcases tl_numT z with z | z | z <;> omega
theorem split_tab {R : List (List Rat)} (h : R ≠ []) : Txt.split (tabT R) "; " = R.map rowT :=
  split_join (s := 59) (S := [32]) tl_semi (by decide +kernel) (fun z => h (List.map_eq_nil_iff.mp z)) fun p hp z => by
    obtain ⟨x, _, rfl⟩ := List.mem_map.mp hp
    rcases tl_rowT z with z | z | z | z <;> omega
theorem log_ltT {a : Int} {k : Nat} (h : a.natAbs < 2 ^ k) (hk : 0 < k) : a.natAbs.log2 < k := by
  by_cases z : a.natAbs = 0
  · rw [z]
    exact hk
  · exact (Nat.log2_lt z).mpr h
theorem istr_len {a : Int} (h : a.natAbs < 2 ^ 1000) : (istr a).length ≤ 1001 := by
  have := int_text_length_le (k := 1000) (by decide) (log_ltT h (by decide))
  show (Str.ofString (toString a)).length ≤ 1001
  rw [PySem.ofString_length]
  exact this
theorem slash_len : ("/" : Str).length = 1 := by decide +kernel
theorem numT_len {x : Rat} (h : Sz 1000 x) : (numT x).length ≤ 2003 := by
  have h1 := istr_len h.top
  have h2 := istr_len h.bot
  unfold numT
  split
  · omega
  · rw [strLen_append, strLen_append, slash_len]
    omega
theorem sum_le {B : Nat} : ∀ {l : List Str}, (∀ y, y ∈ l → y.length ≤ B) → (l.map (·.length)).sum ≤ l.length * B
  | [], _ => by show 0 ≤ _; exact Nat.zero_le _
  | y :: l, h => by
    have h1 := h y List.mem_cons_self
    have h2 := sum_le (l := l) fun z hz => h z (List.mem_cons_of_mem _ hz)
    rw [List.map_cons, List.sum_cons, List.length_cons, Nat.add_mul, Nat.one_mul]
    omega
theorem join_le {y : Str} {l : List Str} : (Txt.join y l).length ≤ (l.map (·.length)).sum + l.length * y.length := by
  have e := size_glued y l
  have : (l.length - 1) * y.length ≤ l.length * y.length := Nat.mul_le_mul (by omega) (Nat.le_refl _)
  show (Builtin.Str.glued y l).length ≤ _
  rw [e]
  omega
theorem blank_len : (" " : Str).length = 1 := by decide +kernel
theorem semi_len : ("; " : Str).length = 2 := by decide +kernel
theorem row_sum {r : List Rat} {m : Nat} (h : ∀ x, x ∈ r → Sz 1000 x) (hm : r.length ≤ m) : ((r.map numT).map (·.length)).sum + (r.map numT).length * (" " : Str).length ≤ m * 2004 := by
  have := sum_le (B := 2003) (l := r.map numT) fun y hy => by
    obtain ⟨x, hx, rfl⟩ := List.mem_map.mp hy
    exact numT_len (h x hx)
  rw [List.length_map] at this ⊢
  rw [blank_len]
  have : r.length * 2003 ≤ m * 2003 := Nat.mul_le_mul hm (Nat.le_refl _)
  omega
theorem rowT_len {r : List Rat} {m : Nat} (h : ∀ x, x ∈ r → Sz 1000 x) (hm : r.length ≤ m) : (rowT r).length ≤ m * 2004 := Nat.le_trans join_le (row_sum h hm)
structure Tt (R : List (List Rat)) : Prop where
  one : 1 ≤ R.length
  most : R.length ≤ 5
  sq : ∀ r, r ∈ R → r.length = R.length
  sz : ∀ r, r ∈ R → ∀ x, x ∈ r → Sz 1000 x
theorem Tt.rows {R : List (List Rat)} (h : Tt R) : ∀ r, r ∈ R → r.length ≤ 5 ∧ ∀ x, x ∈ r → Sz 1000 x := fun r hr => ⟨by rw [h.sq r hr]; exact h.most, h.sz r hr⟩
theorem app_ass (a b c : Str) : a ++ b ++ c = a ++ (b ++ c) := by
  refine str_ext ?_
  rw [str_app_cps, str_app_cps, str_app_cps, str_app_cps, List.append_assoc]
end DL
namespace DL
open PySem PySem.Spec PySem.W PyProof.Rows L2 TL
theorem pre2 {s c : Nat} {S : List Nat} : ∀ {q : List Nat}, pre (s :: c :: S) q = true → q[1]? = some c
  | [], h => by simp [pre] at h
  | [x], h => by simp [pre] at h
  | x :: y :: l, h => by
    simp [pre] at h
    show some y = some c
    rw [h.2.1]
theorem free2 {s c : Nat} {S p q : List Nat} (h : c ∉ p) (hq : q[0]? ≠ some c) : ∀ i, i < p.length → pre (s :: c :: S) ((p ++ q).drop i) = false := fun i hi => by
  cases e : pre (s :: c :: S) ((p ++ q).drop i) with
  | false => rfl
  | true =>
    have := pre2 e
    rw [List.getElem?_drop] at this
    by_cases k : i + 1 < p.length
    · rw [List.getElem?_append_left k] at this
      exact absurd (List.mem_of_getElem? this) h
    · rw [List.getElem?_append_right (by omega), show i + 1 - p.length = 0 by omega] at this
      exact absurd this hq
theorem spl_join2 {s c : Nat} {S : List Nat} (hsc : s ≠ c) : ∀ {parts : List (List Nat)}, parts ≠ [] → (∀ p ∈ parts, c ∉ p) → spl (s :: c :: S) 0 [] (joinL (s :: c :: S) parts) = parts
  | [], h, _ => absurd rfl h
  | [p], _, hp => by
    show spl (s :: c :: S) 0 [] p = [p]
    have := free2 (s := s) (S := S) (q := []) (hp p (List.mem_singleton.mpr rfl)) (by simp)
    rw [List.append_nil] at this
    rw [spl_last this, List.nil_append]
  | p :: q :: r, _, hp => by
    show spl (s :: c :: S) 0 [] (p ++ (s :: c :: S ++ joinL (s :: c :: S) (q :: r))) = p :: q :: r
    rw [spl_part (by simp) (free2 (hp p (List.mem_cons_self ..)) (by simp [hsc])), List.nil_append, spl_join2 hsc (by simp) fun z hz => hp z (List.mem_cons_of_mem _ hz)]
theorem split_join2 {y : Str} {s c : Nat} {S : List Nat} (ey : tl y = s :: c :: S) (hsc : s ≠ c) (hk : y.cps.all (· < 256) = true) {parts : List Str} (hne : parts ≠ []) (hp : ∀ p ∈ parts, c ∉ tl p) :
    Txt.split (Txt.join y parts) y = parts := by
  refine map_tl_inj ?_
  rw [split_spl _ y (by rw [ey]; simp) (kind_ok hk), join_eq, tl_join, ey]
  refine spl_join2 hsc (fun e => hne (List.map_eq_nil_iff.mp e)) fun p h => ?_
  obtain ⟨z, hz, rfl⟩ := List.mem_map.mp h
  exact hp z hz
inductive Thg where
  | r (l : List Rat)
  | l (R : List (List Rat))
  | s (P : List (Rat × List Rat))
def prtD (p : Rat × List Rat) : D := .tup [fq p.1, rowD p.2]
def prtT (p : Rat × List Rat) : Str := numT p.1 ++ " by " ++ rowT p.2
def thD : Thg → D
  | .r l => rowD l
  | .l R => tabD R
  | .s P => .lst (P.map prtD)
def prsT (P : List (Rat × List Rat)) : Str := if P = [] then "none" else Txt.join "; " (P.map prtT)
def thT : Thg → Str
  | .r l => rowT l
  | .l R => tabT R
  | .s P => prsT P
def thC : Thg → Nat
  | .r _ => 114
  | .l _ => 108
  | .s _ => 115
def shp (w : Str) (s : List Nat) : Prop := (w, s) ∈ ([("minors", [114]), ("two", [114, 114, 114]), ("between", [114, 114, 114]), ("weights", [108]), ("beside", [114, 114]), ("lift", [114]), ("hold", [114]), ("squares", [115]), ("dip", [114]), ("answer", [114]), ("bars", [108])] : List (Str × List Nat))
def pprD (w : Str) (T : List Thg) : D := .tup (.str w :: T.map thD)
def pprT (w : Str) (T : List Thg) : Str := w ++ " " ++ Txt.join " | " (T.map thT)
def Rw (l : List Rat) : Prop := l ≠ [] ∧ l.length ≤ 10 ∧ ∀ x, x ∈ l → Nm x
def thOk : Thg → Prop
  | .r l => Rw l
  | .l R => R ≠ [] ∧ R.length ≤ 10 ∧ ∀ r, r ∈ R → Rw r
  | .s P => P.length ≤ 10 ∧ ∀ p, p ∈ P → Nm p.1 ∧ Rw p.2
theorem tl_by : tl (" by " : Str) = [32, 98, 121, 32] := by decide +kernel
theorem tl_bar : tl (" | " : Str) = [32, 124, 32] := by decide +kernel
theorem tl_none : tl ("none" : Str) = [110, 111, 110, 101] := by decide +kernel
theorem tl_tabT {R : List (List Rat)} {c : Nat} (h : c ∈ tl (tabT R)) : (48 ≤ c ∧ c ≤ 57) ∨ c = 45 ∨ c = 47 ∨ c = 32 ∨ c = 59 := by
  unfold tabT at h
  rcases mem_join h with h | ⟨p, hp, h⟩
  · rw [tl_semi] at h
    simp at h
    omega
  · obtain ⟨r, _, rfl⟩ := List.mem_map.mp hp
    rcases tl_rowT h with h | h | h | h
    · exact .inl h
    · exact .inr (.inl h)
    · exact .inr (.inr (.inl h))
    · exact .inr (.inr (.inr (.inl h)))
theorem tl_prtT {p : Rat × List Rat} {c : Nat} (h : c ∈ tl (prtT p)) : (48 ≤ c ∧ c ≤ 57) ∨ c = 45 ∨ c = 47 ∨ c = 32 ∨ c = 98 ∨ c = 121 := by
  unfold prtT at h
  rw [tl_append, tl_append, tl_by, List.mem_append, List.mem_append] at h
  rcases h with (h | h) | h
  · rcases tl_numT h with h | h | h
    · exact .inl h
    · exact .inr (.inl h)
    · exact .inr (.inr (.inl h))
  · simp at h
    omega
  · rcases tl_rowT h with h | h | h | h
    · exact .inl h
    · exact .inr (.inl h)
    · exact .inr (.inr (.inl h))
    · exact .inr (.inr (.inr (.inl h)))
theorem tl_prsT {P : List (Rat × List Rat)} {c : Nat} (h : c ∈ tl (prsT P)) : c ≠ 124 := by
  unfold prsT at h
  split at h
  · rw [tl_none] at h
    simp at h
    omega
  · rcases mem_join h with h | ⟨p, hp, h⟩
    · rw [tl_semi] at h
      simp at h
      omega
    · obtain ⟨r, _, rfl⟩ := List.mem_map.mp hp
      rcases tl_prtT h with h | h | h | h | h | h <;> omega
theorem tl_thT {t : Thg} : 124 ∉ tl (thT t) := fun h => by
  cases t with
  | r l => rcases tl_rowT h with h | h | h | h <;> omega
  | l R => rcases tl_tabT h with h | h | h | h | h <;> omega
  | s P => exact tl_prsT h rfl
theorem split_ppr {T : List Thg} (h : T ≠ []) : Txt.split (Txt.join " | " (T.map thT)) " | " = T.map thT :=
  split_join2 tl_bar (by decide) (by decide +kernel) (fun z => h (List.map_eq_nil_iff.mp z)) fun p hp => by
    obtain ⟨t, _, rfl⟩ := List.mem_map.mp hp
    exact tl_thT
theorem split_prs {P : List (Rat × List Rat)} (h : P ≠ []) : Txt.split (prsT P) "; " = P.map prtT := by
  unfold prsT
  rw [if_neg h]
  exact split_join (s := 59) (S := [32]) tl_semi (by decide +kernel) (fun z => h (List.map_eq_nil_iff.mp z)) fun p hp z => by
    obtain ⟨x, _, rfl⟩ := List.mem_map.mp hp
    rcases tl_prtT z with z | z | z | z | z | z <;> omega
theorem part_prt (p : Rat × List Rat) : Txt.partition (prtT p) " by " = (numT p.1, (" by " : Str), rowT p.2) := partition_app tl_by fun z => by
  rcases tl_numT z with z | z | z <;> omega
end DL
namespace DL
open PySem PySem.Spec PyProof.Rows L2
abbrev fnD (f : Addr) : D := .raw (.ref f)
def DicV (K : PySem.W.Frag) (w : World) (mg : Str → Option Value) (x : Str) (kvs : List (Str × D)) : Prop := ∃ a es n, mg x = some (.ref a) ∧ KDict K w a es n ∧ ∀ q, q ∈ kvs → ∃ v, KDct K w a q.1 v ∧ ∀ H, RepO K H q.2 v []
structure FnV (P : Program) (w : World) (K : PySem.W.Frag) (mg : Str → Option Value) (base : Heap) (k : Nat) (ps : List Str) (f : Addr) (fd : FuncData) (F : List D → (D → Prop) → Prop) : Prop where
  ok : FnOk P w K mg base CX0 k f fd ps (spP K F)
  kp : PySem.W.keepIn K (.ref f) = true
  bd : Binds K fd ps []
section
variable {X : Cx} {ss ts : List Slot} {Φ : List Slot → Slot → Prop} {b e : Expr} {es : List Expr} {x : Str} {p pos : Pos} {k j : Nat} {ps : List Str} {f : Addr} {fd : FuncData} {F : List D → (D → Prop) → Prop} {kvs : List (Str × D)}
theorem eIxG (D : DicV X.K X.w X.mg x kvs) (h : EV X b ss ts fun s r => s1K (fun z => ∃ d, (z, d) ∈ kvs ∧ Φ s (.own d)) r) (hg : Gl X x := by rfl) (hd : (x == ("__debug__" : Str)) = false := by decide) (hs : PlainIx b := by intro _ _; rfl) : EV X (.Subscript (.Name x p) b pos) ss ts Φ := fun m B σ tv H Q hm hh kk => by
  obtain ⟨a, es0, n0, ha, hd0, hk⟩ := D
  refine toE (pe_ix ix_kdict (C8.pe_gc (v := V.ref a) hg ⟨_, ha, rfl⟩ hd) pe_w hs) ?_
  refine h m B σ tv H _ hm hh fun s r v H1 hq hh1 => ?_
  obtain ⟨z, er, d, hmem, q⟩ := s1K_of hq
  have zv := hh1.top (d := .str z) (by rw [er]; exact Slot.is_own)
  rw [rep_str] at zv
  subst zv
  obtain ⟨v, kd, rd⟩ := hk _ hmem
  exact ⟨a, z, v, rfl, rfl, kd, kk s _ _ H1 q ((hh1.pop hm).pushF (rd H1))⟩
theorem cCallV (i : Nat) (C : FnV X.prog X.w X.K X.mg X.base k ps f fd F) (hr : Room j X.A) (hj : k ≤ j) (h : AV X (e :: es) ss ts fun s rs => allK rs fun ds => F ds fun d => Φ s (.own d))
    (h0 : ss[i]? = some (.own (fnD f)) ∨ ss[i]? = some (.par (fnD f)) := by first | exact .inl rfl | exact .inr rfl) (hN : X.N[i]? = some x := by rfl) (hv : Vis X.env.scope x := by first | exact Or.inl rfl | exact Or.inr (Or.inl rfl) | exact Or.inr (Or.inr rfl))
    (hdb : (x == ("__debug__" : Str)) = false := by decide) (hcd : (x == ("__classdict__" : Str)) = false := by decide) (he : starEach (e :: es) X.env = (false, eval e X.env) :: starEach es X.env := by rfl) (hpl : (backTo pos (starEach es X.env)).any (·.1) = false := by rfl) : EV X (.Call (.Name x p) (e :: es) [] pos) ss ts Φ := fun m B σ tv H Q hm hh kk => by
  refine toE (pe_callL (i := i) C.ok (hr.mono hj) hN hv C.kp C.bd .nil pass0 pa_w hdb hcd he hpl) ⟨?_, ?_⟩
  · obtain ⟨fp, hf⟩ := id hh
    have : ∃ v, σ[i]?.join = some v ∧ v = V.ref f := by
      rcases h0 with h0 | h0
      · obtain ⟨v, e1, e2⟩ := hf.var i _ h0
        unfold RepO at e2
        exact ⟨v, e1, e2.1⟩
      · obtain ⟨v, e1, e2⟩ := hf.var i _ h0
        unfold RepR at e2
        exact ⟨v, e1, e2⟩
    obtain ⟨v, e1, rfl⟩ := this
    cases e : σ[i]? with
    | none => rw [e] at e1; cases e1
    | some y => rw [e] at e1; have z : y = some (V.ref f) := e1; rw [z]
  refine h m B σ tv H _ hm hh fun s rs vs H1 q l1 l2 hh1 => ?_
  obtain ⟨ds, ia, hF⟩ := allK_of q
  have hpop := hh1.popA l1 hm
  refine spP_use (by rw [List.append_nil]; exact hh1.argsOf l1 ia hm) hF fun d v H2 q n => ?_
  exact kk s _ v H2 q (hpop.new n)
end
abbrev AlV : Type := AlT × List (Option (List (Option (Str × Int))))
abbrev TabD : Type := Str × List (Str × He.Dv)
def dicB (ds : List TabD) (K : PySem.W.Frag) : Bool := ds.all fun t => He.Fa.ok K (.glo t.1) && He.valsB K (He.ga K t.1) t.2
def obsV (eb : PySem.W.Frag → Bool) (tb : List (Str × List He.Dv)) (fa : List He.Fa) (fn : List He.DefD) (ds : List TabD) (K : PySem.W.Frag) : AlV := (obsE (fun K => eb K && dicB ds K) tb fa fn K, ds.map fun t => He.dicW K (He.ga K t.1))
def valV (fn : List He.DefD) (ds : List TabD) (w : World) : AlV := ((true, He.valD fn), ds.map fun t => some (He.keysIn w.params (t.2.map (·.1))))
def obsVG (n : Nat) (eb : PySem.W.Frag → Bool) (tb : List (Str × List He.Dv)) (fa : List He.Fa) (fn : List He.DefD) (ds : List TabD) (g : Addr → Option Obj) : AlV := obsV eb tb fa fn ds (He.frG g ((asB g n).2.1 ++ [cStatics]))
def SaysV (eb : PySem.W.Frag → Bool) (tb : List (Str × List He.Dv)) (fa : List He.Fa) (fn : List He.DefD) (ds : List TabD) (w : World) (K : PySem.W.Frag) : Prop := obsV eb tb fa fn ds K = valV fn ds w
def hookV (n : Nat) (eb : PySem.W.Frag → Bool) (tb : List (Str × List He.Dv)) (fa : List He.Fa) (fn : List He.DefD) (ds : List TabD) : PySem.W.Hook where
  α := AlV
  obs := fun s => obsVG n eb tb fa fn ds s.heap.get?
  val := fun w => valV fn ds w
  says := fun w h => ∃ K : PySem.W.Frag, K.In h ∧ SaysV eb tb fa fn ds w K
  of := fun _ _ e => ⟨_, He.frG_in, e⟩
  keeps := fun _ _ _ ⟨K, hK, c⟩ k => ⟨K, PySem.W.Frag.In.keeps hK k, c⟩
theorem obsVG_eq {n : Nat} {eb : PySem.W.Frag → Bool} {tb : List (Str × List He.Dv)} {fa : List He.Fa} {fn : List He.DefD} {ds : List TabD} {g : Addr → Option Obj} {s : Shared} (h : ∀ a, g a = s.heap.get? a) : obsVG n eb tb fa fn ds g = (hookV n eb tb fa fn ds).obs s := by
  have e : g = s.heap.get? := funext h
  rw [e] <;> rfl
section
variable {eb : PySem.W.Frag → Bool} {tb : List (Str × List He.Dv)} {fa : List He.Fa} {fn : List He.DefD} {ds : List TabD} {w : World} {K : PySem.W.Frag}
theorem SaysV.ex (c : SaysV eb tb fa fn ds w K) : eb K = true ∧ SaysT tb fa fn K := by
  have c1 : obsE (fun K => eb K && dicB ds K) tb fa fn K = (true, He.valD fn) := congrArg (fun z : AlV => z.1) c
  obtain ⟨h1, h2⟩ := SaysE.ex (eb := fun K => eb K && dicB ds K) c1
  exact ⟨(He.ba h1).1, h2⟩
def dvD (K : PySem.W.Frag) : He.Dv → D
  | .glo x => fnD (He.ga K x)
  | .str z => .str z
  | .int i => .int i
  | _ => .non
def dvOk : He.Dv → Bool
  | .glo _ => true
  | .str _ => true
  | .int _ => true
  | _ => false
theorem SaysV.dic {h : Heap} {mg : Str → Option Value} (X : K.In h) (G : h.Ns mainGlobals mg) (c : SaysV eb tb fa fn ds w K) (i : Nat) {t : TabD} (e : ds[i]? = some t := by rfl) (ok : (t.2.all fun q => dvOk q.2) = true := by rfl) : DicV K w mg t.1 (t.2.map fun q => (q.1, dvD K q.2)) := by
  have c1 : obsE (fun K => eb K && dicB ds K) tb fa fn K = (true, He.valD fn) := congrArg (fun z : AlV => z.1) c
  have c2 : ds.map (fun t => He.dicW K (He.ga K t.1)) = ds.map fun t => some (He.keysIn w.params (t.2.map (·.1))) := congrArg (fun z : AlV => z.2) c
  obtain ⟨h1, _⟩ := SaysE.ex (eb := fun K => eb K && dicB ds K) c1
  obtain ⟨g1, g2⟩ := He.ba (List.all_eq_true.mp (He.ba h1).2 t (List.mem_of_getElem? e))
  have e2 : (ds.map fun t => He.dicW K (He.ga K t.1))[i]? = (ds.map fun t => some (He.keysIn w.params (t.2.map (·.1))))[i]? := by rw [c2]
  rw [List.getElem?_map, List.getElem?_map, e] at e2
  obtain ⟨es, n, kd⟩ := He.dicW_ok (Option.some.inj e2)
  refine ⟨_, es, n, He.glo_ok X G g1, kd, fun q hq => ?_⟩
  obtain ⟨r, hr, rfl⟩ := List.mem_map.mp hq
  obtain ⟨u, hu, ru⟩ := He.valsB_ok g2 hr
  have o := List.all_eq_true.mp ok r hr
  refine ⟨_, ⟨es, n, u, kd.at_, kd.lit, hu, ru⟩, fun H => ?_⟩
  cases hz : r.2 with
  | glo x => unfold dvD; unfold RepO; exact ⟨rfl, rfl⟩
  | str z => exact o_str
  | int z => exact o_int
  | _ => rw [hz] at o; cases o
end
end DL
namespace DZ4
open PySem
structure ZSep4 (z TI TO i1 i2 i3 i4 : Addr) (fp1 fp2 fp3 fp4 : List Addr) : Prop where
  TIz : TI ≠ z
  TOz : TO ≠ z
  TITO : TI ≠ TO
  TIi1 : TI ≠ i1
  mem1 : i1 ∈ fp1
  zf1 : z ∉ fp1
  Tf1 : TO ∉ fp1
  TIi2 : TI ≠ i2
  mem2 : i2 ∈ fp2
  zf2 : z ∉ fp2
  Tf2 : TO ∉ fp2
  TIi3 : TI ≠ i3
  mem3 : i3 ∈ fp3
  zf3 : z ∉ fp3
  Tf3 : TO ∉ fp3
  TIi4 : TI ≠ i4
  mem4 : i4 ∈ fp4
  zf4 : z ∉ fp4
  Tf4 : TO ∉ fp4
  s1_2 : i1 ∉ fp2
  s1_3 : i1 ∉ fp3
  s1_4 : i1 ∉ fp4
  s2_1 : i2 ∉ fp1
  s2_3 : i2 ∉ fp3
  s2_4 : i2 ∉ fp4
  s3_1 : i3 ∉ fp1
  s3_2 : i3 ∉ fp2
  s3_4 : i3 ∉ fp4
  s4_1 : i4 ∉ fp1
  s4_2 : i4 ∉ fp2
  s4_3 : i4 ∉ fp3
section
variable {prog : Program} {w : World} {A : Around} {E : Value → Shared → Prop} {s : Shared} {z TI TO i1 i2 i3 i4 : Addr} {fp1 fp2 fp3 fp4 : List Addr} {n1 n2 n3 n4 i : Nat} {P1 P2 P3 P4 : Nat → Value → Prop} {St1 St2 St3 St4 : Nat → Heap → Prop} {a1 a2 a3 a4 : Value}
theorem ZSep4.zi1 (S : ZSep4 z TI TO i1 i2 i3 i4 fp1 fp2 fp3 fp4) : z ≠ i1 := fun e => S.zf1 (by rw [e]; exact S.mem1)
theorem ZSep4.zi2 (S : ZSep4 z TI TO i1 i2 i3 i4 fp1 fp2 fp3 fp4) : z ≠ i2 := fun e => S.zf2 (by rw [e]; exact S.mem2)
theorem ZSep4.Ti1 (S : ZSep4 z TI TO i1 i2 i3 i4 fp1 fp2 fp3 fp4) : TO ≠ i1 := fun e => S.Tf1 (by rw [e]; exact S.mem1)
theorem ZSep4.Ti2 (S : ZSep4 z TI TO i1 i2 i3 i4 fp1 fp2 fp3 fp4) : TO ≠ i2 := fun e => S.Tf2 (by rw [e]; exact S.mem2)
end
end DZ4
namespace DZ
open PySem
section
variable {prog : Program} {w : World} {A : Around} {E : Value → Shared → Prop} {s : Shared} {z TI TO i1 i2 : Addr} {fp1 fp2 : List Addr} {n i : Nat} {P1 P2 : Nat → Value → Prop} {St1 St2 : Nat → Heap → Prop} {a b : Value}
theorem orEnd_itemD {it : Addr} {fp : List Addr} {P : Nat → Value → Prop} {St : Nat → Heap → Prop} {Q : Option Value → Shared → Prop} (D : Draws prog w A it fp n P St) (hi : i < n) (st : St i s.heap)
    (q : ∀ x h' tk, P i x → St (i + 1) h' → Heap.SameBut it s.heap h' → Q (some x) { s with heap := h', toks := tk }) : wpAny (model prog w) A (Builtin.SmallTypes.nextOrEnd (.ref it)) Q E s := by
  unfold Builtin.SmallTypes.nextOrEnd
  refine wpAny_bind (wpAny_attempt (D.item i s _ _ hi st fun x h' tk p s2 sb => ?_))
  exact wpAny_pure (q x h' tk p s2 sb)
theorem orEnd_endD {it : Addr} {fp : List Addr} {P : Nat → Value → Prop} {St : Nat → Heap → Prop} {Q : Option Value → Shared → Prop} (D : Draws prog w A it fp n P St) (st : St n s.heap)
    (q : ∀ h', Heap.ExtBut it s.heap h' → Q none { s with heap := h' }) : wpAny (model prog w) A (Builtin.SmallTypes.nextOrEnd (.ref it)) Q E s := by
  unfold Builtin.SmallTypes.nextOrEnd
  refine wpAny_bind (wpAny_attempt (D.done s _ _ st fun h' e eb he => ?_))
  obtain ⟨o, ho, hc⟩ := he
  refine wpAny_bind (wpAny_isInstance (T := "StopIteration") (b := true) ⟨o, ho, hc⟩ isSubtype_stop ?_)
  exact wpAny_pure (q h' eb)
theorem next_itemD {Q : Value → Shared → Prop} (S : ZipSep2 z TI TO i1 i2 fp1 fp2) (D1 : Draws prog w A i1 fp1 n P1 St1) (D2 : Draws prog w A i2 fp2 n P2 St2)
    (kz : SZip s.heap z TI TO .none) (ki : IsPair s.heap TI (.ref i1) (.ref i2)) (ko : IsPair s.heap TO a b) (st1 : St1 i s.heap) (st2 : St2 i s.heap) (hi : i < n)
    (q : ∀ x y h' tk, P1 i x → P2 i y → SZip h' z TI TO (rawInt s.heap.objs.size) → IsPair h' TO x y → St1 (i + 1) h' → St2 (i + 1) h' → IsPair h' s.heap.objs.size x y → h'.objs.size = s.heap.objs.size + 1 →
      (∀ c o, c ≠ z → c ≠ TO → c ≠ i1 → c ≠ i2 → s.heap.get? c = some o → h'.get? c = some o) → Q (.ref s.heap.objs.size) { s with heap := h', toks := tk }) :
    wpAny (model prog w) A (Builtin.«zip.__next__» ⟨[.ref z], []⟩) (fun fin s' => ∃ v, fin = .done (.ret v) ∧ Q v s') E s := by
  obtain ⟨hp, g, d, tk0, os⟩ := s
  show wpAny _ _ (field (.ref z) 2 >>= _) _ _ _
  refine wpAny_bind (wpAny_field kz rfl (x := .bool true) rfl ?_)
  show wpAny _ _ (field (.ref z) 3 >>= _) _ _ _
  refine wpAny_bind (wpAny_field kz rfl (x := .ref TI) rfl ?_)
  refine wpAny_bind (wpAny_seqItems ki rfl ?_)
  show wpAny _ _ (Builtin.SmallTypes.ownedTupleIsFree (.ref z) >>= _) _ _ _
  refine wpAny_bind ?_
  unfold Builtin.SmallTypes.ownedTupleIsFree
  refine wpAny_bind (wpAny_field kz rfl (x := .none) rfl (wpAny_pure ?_))
  simp only [if_true]
  refine wpAny_bind (wpAny_rule ?_)
  refine wpAny_bind (wpAny_field kz rfl (x := .ref TO) rfl ?_)
  refine wpAny_bind (wpAny_setField_rec kz (by simp) fun ha za sa => ?_)
  replace za : SZip ha z TI TO .ellipsis := za
  refine wpAny_bind ?_
  simp only [List.zipIdx_cons, List.zipIdx_nil, List.forIn_cons, List.forIn_nil]
  refine wpAny_bind (wpAny_bind (wpAny_onRaise ?_))
  show wpAny _ _ (Builtin.SmallTypes.nextOrEnd (.ref i1)) _ _ _
  refine orEnd_itemD D1 hi (D1.over st1 sa S.zf1) fun x hb tb px ib sb => ?_
  have ob : IsPair hb TO a b := sb.extBut _ _ S.Ti1 (sa.extBut _ _ S.TOz ko)
  refine wpAny_bind (wpAny_seqItems ob rfl ?_)
  refine wpAny_bind (wpAny_updateSeq_pair ob fun hc oc sc => ?_)
  replace oc : IsPair hc TO x b := oc
  refine wpAny_bind (wpAny_letGo (wpAny_pure ?_))
  refine wpAny_bind (wpAny_bind (wpAny_onRaise ?_))
  show wpAny _ _ (Builtin.SmallTypes.nextOrEnd (.ref i2)) _ _ _
  refine orEnd_itemD D2 hi (D2.over (D2.over (D2.over st2 sa S.zf2) sb S.sep1_2) sc S.Tf2) fun y hd td py jd sd => ?_
  have od : IsPair hd TO x b := sd.extBut _ _ S.Ti2 oc
  refine wpAny_bind (wpAny_seqItems od rfl ?_)
  refine wpAny_bind (wpAny_updateSeq_pair od fun he oe se => ?_)
  replace oe : IsPair he TO x y := oe
  refine wpAny_bind (wpAny_letGo (wpAny_pure (wpAny_pure ?_)))
  refine wpAny_bind (wpAny_seqItems oe rfl ?_)
  refine wpAny_bind (wpAny_newTuple ?_)
  have hsz : he.objs.size = hp.objs.size := by rw [se.1, sd.1, sc.1, sb.1, sa.1]
  have ze : SZip he z TI TO .ellipsis := se.extBut _ _ S.TOz.symm (sd.extBut _ _ S.zi2 (sc.extBut _ _ S.TOz.symm (sb.extBut _ _ S.zi1 za)))
  have kk : ∀ c o, c ≠ z → c ≠ TO → c ≠ i1 → c ≠ i2 → hp.get? c = some o → he.get? c = some o := fun c o c1 c2 c3 c4 e => se.extBut _ _ c2 (sd.extBut _ _ c4 (sc.extBut _ _ c2 (sb.extBut _ _ c3 (sa.extBut _ _ c1 e))))
  have f1 : St1 (i + 1) he := D1.over (D1.over (D1.over ib sc S.Tf1) sd S.sep2_1) se S.Tf1
  have f2 : St2 (i + 1) he := D2.over jd se S.Tf2
  have ltz : z < he.objs.size := Heap.lt_size ze
  show wpAny _ _ (Builtin.SmallTypes.ownedTupleHandOut (.ref z) (.ref he.objs.size) >>= _) _ _ _
  refine wpAny_bind ?_
  unfold Builtin.SmallTypes.ownedTupleHandOut
  have zf : SZip (he.push { cls := .type "tuple", data := .seq #[x, y] }) z TI TO .ellipsis := Heap.get?_push_of_some _ ze
  refine wpAny_bind (wpAny_setField_rec zf (by simp) fun hg zg sg => ?_)
  replace zg : SZip hg z TI TO (rawInt he.objs.size) := zg
  refine wpAny_setField_rec zg (by simp) fun hi zi si => ?_
  replace zi : SZip hi z TI TO (rawInt he.objs.size) := zi
  have up : ∀ c o, c ≠ z → he.get? c = some o → hi.get? c = some o := fun c o c1 e => si.extBut _ _ c1 (sg.extBut _ _ c1 (Heap.get?_push_of_some _ e))
  have ti : IsPair hi he.objs.size x y := si.extBut _ _ (Nat.ne_of_gt ltz) (sg.extBut _ _ (Nat.ne_of_gt ltz) (Heap.get?_push_size _ rfl))
  have zn : hi.objs.size = he.objs.size + 1 := by rw [si.1, sg.1, Heap.size_push]
  rw [hsz] at zi ti zn
  refine wpAny_pure ⟨_, rfl, ?_⟩
  show Q (.ref he.objs.size) _
  rw [hsz]
  exact q x y hi _ px py zi (up _ _ S.TOz oe) (D1.frame _ _ _ f1 fun c hc o e => up c o (fun e2 => S.zf1 (by rw [← e2]; exact hc)) e) (D2.frame _ _ _ f2 fun c hc o e => up c o (fun e2 => S.zf2 (by rw [← e2]; exact hc)) e) ti zn fun c o c1 c2 c3 c4 e => up c o c1 (kk c o c1 c2 c3 c4 e)
theorem next_endD {Q : Fin → Shared → Prop} (hh : A.handled = none) (S : ZipSep2 z TI TO i1 i2 fp1 fp2) (D1 : Draws prog w A i1 fp1 n P1 St1) (D2 : Draws prog w A i2 fp2 n P2 St2)
    (kz : SZip s.heap z TI TO .none) (ki : IsPair s.heap TI (.ref i1) (.ref i2)) (ko : IsPair s.heap TO a b) (st1 : St1 n s.heap) (st2 : St2 n s.heap)
    (q : ∀ h' e, (∀ c o, c ≠ z → c ≠ TO → c ≠ i1 → c ≠ i2 → s.heap.get? c = some o → h'.get? c = some o) → (∃ o, h'.get? e = some o ∧ o.cls = .type "StopIteration") → E (.ref e) { s with heap := h' }) :
    wpAny (model prog w) A (Builtin.«zip.__next__» ⟨[.ref z], []⟩) Q E s := by
  show wpAny _ _ (field (.ref z) 2 >>= _) _ _ _
  refine wpAny_bind (wpAny_field kz rfl (x := .bool true) rfl ?_)
  show wpAny _ _ (field (.ref z) 3 >>= _) _ _ _
  refine wpAny_bind (wpAny_field kz rfl (x := .ref TI) rfl ?_)
  refine wpAny_bind (wpAny_seqItems ki rfl ?_)
  show wpAny _ _ (Builtin.SmallTypes.ownedTupleIsFree (.ref z) >>= _) _ _ _
  refine wpAny_bind ?_
  unfold Builtin.SmallTypes.ownedTupleIsFree
  refine wpAny_bind (wpAny_field kz rfl (x := .none) rfl (wpAny_pure ?_))
  simp only [if_true]
  refine wpAny_bind (wpAny_rule ?_)
  refine wpAny_bind (wpAny_field kz rfl (x := .ref TO) rfl ?_)
  refine wpAny_bind (wpAny_setField_rec kz (by simp) fun ha za sa => ?_)
  replace za : SZip ha z TI TO .ellipsis := za
  refine wpAny_bind ?_
  simp only [List.zipIdx_cons, List.zipIdx_nil, List.forIn_cons, List.forIn_nil]
  refine wpAny_bind (wpAny_bind (wpAny_onRaise ?_))
  show wpAny _ _ (Builtin.SmallTypes.nextOrEnd (.ref i1)) _ _ _
  refine orEnd_endD D1 (D1.over st1 sa S.zf1) fun hb eb => ?_
  have zb : SZip hb z TI TO .ellipsis := eb _ _ S.zi1 za
  refine wpAny_bind (wpAny_setField_rec zb (by simp) fun hc zc sc => ?_)
  have yc : St2 n hc := D2.over (D2.frame _ _ _ (D2.over st2 sa S.zf2) fun c hc o e => eb c o (fun e2 => S.sep1_2 (by rw [← e2]; exact hc)) e) sc S.zf2
  refine wpAny_bind ?_
  show wpAny _ _ (((Builtin.SmallTypes.nextOrEnd (.ref i2) >>= _) >>= _) >>= _) _ _ _
  refine wpAny_bind (wpAny_bind (wpAny_bind (orEnd_endD D2 yc fun hd ed => ?_)))
  rw [if_neg (by decide)]
  refine wpAny_pure ?_
  show wpAny _ _ (pure _) _ _ _
  refine wpAny_pure ?_
  refine wpAny_bind (wpAny_rule ?_)
  refine stop_ok hh fun he e ke ho => ?_
  exact q he e (fun c o c1 c2 c3 c4 g => ke c o (ed c o c4 (sc.extBut c o c1 (eb c o c3 (sa.extBut c o c1 g))))) ho
theorem pyNext_itemD {Q : Option Value → Shared → Prop} (S : ZipSep2 z TI TO i1 i2 fp1 fp2) (D1 : Draws prog w A.in1 i1 fp1 n P1 St1) (D2 : Draws prog w A.in1 i2 fp2 n P2 St2)
    (kz : SZip s.heap z TI TO .none) (ki : IsPair s.heap TI (.ref i1) (.ref i2)) (ko : IsPair s.heap TO a b) (st1 : St1 i s.heap) (st2 : St2 i s.heap) (hi : i < n)
    (q : ∀ x y h' tk, P1 i x → P2 i y → SZip h' z TI TO (rawInt s.heap.objs.size) → IsPair h' TO x y → St1 (i + 1) h' → St2 (i + 1) h' → IsPair h' s.heap.objs.size x y → h'.objs.size = s.heap.objs.size + 1 →
      (∀ c o, c ≠ z → c ≠ TO → c ≠ i1 → c ≠ i2 → s.heap.get? c = some o → h'.get? c = some o) → Q (some (.ref s.heap.objs.size)) { s with heap := h', toks := tk }) : wpAny (model prog w) A (pyNext (.ref z)) Q E s := by
  have ty : s.TypeIs (.ref z) "zip" := ⟨_, kz, rfl⟩
  unfold pyNext
  refine wpAny_bind (wpAny_attempt (wpAny_callSpecial?_slot (name := Str.ofString "__next__") ty F.slot_zip_next (wpAny_call_entry F.slot_zip_next ty F.entry_zip_next (next_itemD S D1 D2 kz ki ko st1 st2 hi fun x y h' tk p1 p2 a1 a2 a3 a4 a5 a6 a7 => ?_) (F.args_zip_next_1 _))))
  exact wpAny_pure (q x y h' tk p1 p2 a1 a2 a3 a4 a5 a6 a7)
theorem pyNext_endD {Q : Option Value → Shared → Prop} (hh : A.handled = none) (S : ZipSep2 z TI TO i1 i2 fp1 fp2) (D1 : Draws prog w A.in1 i1 fp1 n P1 St1) (D2 : Draws prog w A.in1 i2 fp2 n P2 St2)
    (kz : SZip s.heap z TI TO .none) (ki : IsPair s.heap TI (.ref i1) (.ref i2)) (ko : IsPair s.heap TO a b) (st1 : St1 n s.heap) (st2 : St2 n s.heap)
    (q : ∀ h', (∀ c o, c ≠ z → c ≠ TO → c ≠ i1 → c ≠ i2 → s.heap.get? c = some o → h'.get? c = some o) → Q none { s with heap := h' }) : wpAny (model prog w) A (pyNext (.ref z)) Q E s := by
  have ty : s.TypeIs (.ref z) "zip" := ⟨_, kz, rfl⟩
  unfold pyNext
  refine wpAny_bind (wpAny_attempt (wpAny_callSpecial?_slot (name := Str.ofString "__next__") ty F.slot_zip_next (wpAny_call_entry F.slot_zip_next ty F.entry_zip_next (next_endD (A := A.in1) hh S D1 D2 kz ki ko st1 st2 fun h' e hk he => ?_) (F.args_zip_next_1 _))))
  obtain ⟨o, ho, hc⟩ := he
  exact wpAny_bind (wpAny_isInstance (T := "StopIteration") (b := true) ⟨o, ho, hc⟩ isSubtype_stop (wpAny_pure (q _ hk)))
end
end DZ
namespace DL
open PySem PySem.Spec PyProof.Rows L2
structure MethI (P : Program) (w : World) (K : PySem.W.Frag) (mg : Str → Option Value) (base : Heap) (k : Nat) (C : Addr) (m : Str) (ps : List Str) (f : Addr) (fd : FuncData) (dds : List D) (F : D → List D → (D → D → Prop) → Prop) : Prop where
  ok : FnOk P w K mg base CX0 k f fd ps (spI K F)
  cl : Cls K C
  me : Meth K C m f
  bd : ∃ (dvs : List V) (dfl : List Value), Binds K fd ps dfl ∧ Vals dvs dfl ∧ ∀ H, RepRs K H dds dvs
end DL
namespace DL
open PySem PySem.Spec PyProof.Rows L2
section
variable {X : Cx} {fx : List Nat} {ss ts : List Slot} {Φ : List Slot → Slot → Prop} {e a b c : Expr} {pos p : Pos} {E : DE} {x : Str}
theorem eIfE (h : TV X c ss ts fun s t => (t = true → EV X a s ts Φ) ∧ (t = false → EV X b s ts Φ)) : EV X (.IfExp c a b pos) ss ts Φ := ev_if h
end
end DL
namespace DL
open PySem PySem.Spec PyProof.Rows L2
section
variable {X : Cx} {ss ts : List Slot} {Φ : List Slot → Slot → Prop} {N : List Slot → Prop} {es : List Expr} {pos apos px : Pos} {x : Str} {a : Expr}
theorem eOne {op} (h : EV X a ss ts Φ) : EV X (.BoolOp op [a] pos) ss ts Φ := fun m B σ tv H Q hm hh k => toE (pe_one pe_w) (h m B σ tv H Q hm hh k)
theorem gv_tupP {as : List Nat} {n : Nat} {ds : List D} {k : Nat} (hc : X.calm = true) (hl : ds.length = n) (h : GsV X es as (ds.map (it 0 (.par .non))) ss ts N)
    (hn : (assignEach es X.env).length = n := by rfl) (hst : (assignEach es X.env).findIdx? (·.1) = none := by rfl) : GV X (.Tuple es k pos) as (.one (.par (.tup ds))) ss ts N := fun m B σ tv H v Q hm hh kk => by
  obtain ⟨fp, hf⟩ := hh
  have q := hf.tmp ts.length (.par (.tup ds)) (by simp)
  have tl := hf.tlen
  obtain ⟨w, e1, r1⟩ := q
  have e2 : v = w := by
    have e3 : tv.length = ts.length := by simpa using tl
    rw [List.reverse_cons, List.getElem?_append_right (by simp [e3]), List.length_reverse, e3, Nat.sub_self] at e1
    exact Option.some.inj e1
  subst e2
  have r2 := r1
  unfold RepR at r2
  obtain ⟨a, vs, rfl, sq, rr⟩ := r2
  have rrH := rr.mono hf.base
  have sqH : SqT X.K H a vs := Ex.sqt hf.base sq
  obtain ⟨fp', h2, _⟩ := HeldF.pushIts (o := .t ts.length) (r := .par .non) (n := 0) (hf.pop hm) rrH fun i d v e1 e2 => ⟨v, rfl, by
    obtain ⟨w, w1, w2⟩ := rr.get e1
    rw [e2] at w1
    cases w1
    exact w2⟩
  refine toG (pg_tup hc pgs_w hn hst) ⟨a, _, rfl, sqH, rrH.length.trans hl, ?_⟩
  exact h m B σ tv H _ Q hm (by rw [rrH.length, List.length_map]) ⟨fp', h2⟩ kk
end
end DL
namespace DZ
open PySem
abbrev dT2 (h : Heap) (o1 o2 : Obj) : Heap := ((h.push o1).push o2).push { cls := .type "tuple", data := .seq #[.ref h.objs.size, .ref (h.push o1).objs.size] }
abbrev dO2 (h : Heap) (o1 o2 : Obj) : Heap := (dT2 h o1 o2).push { cls := .type "tuple", data := .seq #[.none, .none] }
abbrev dZ2 (h : Heap) (o1 o2 : Obj) : Heap := (dO2 h o1 o2).push { cls := .type "zip", data := .fields #[.none, .bool false, .bool true, .ref ((h.push o1).push o2).objs.size, .ref (dT2 h o1 o2).objs.size] }
set_option maxHeartbeats 1000000 in
theorem new_meetsD {v1 v2 : Value} {o1 o2 : Obj} {H1 H2 : Heap → Prop} (B1 : Begins v1 o1 H1) (B2 : Begins v2 o2 H2) :
    Meets (Builtin.«zip.__new__» ⟨[.type "zip", v1, v2], [(Str.ofString "strict", .bool true)]⟩) (fun _ R s => (H1 s.heap ∧ H2 s.heap) ∧ R (.ok (.ret (.ref (dO2 s.heap o1 o2).objs.size))) { s with heap := dZ2 s.heap o1 o2 }) :=
  .of_wp fun prog w A R s h => by
    obtain ⟨hp, g, d, tk, os⟩ := s
    obtain ⟨⟨h1, h2⟩, h⟩ := h
    have hsub := sub_zip
    have q1 : ∀ {A' : Around} {E : Value → Shared → Prop} {Q : Value → Shared → Prop}, Q (.ref hp.objs.size) ⟨(hp.push o1), g, d, tk, os⟩ → wpAny (model prog w) A' (pyIter v1) Q E ⟨hp, g, d, tk, os⟩ :=
      fun q => B1.iter prog w _ _ ⟨hp, g, d, tk, os⟩ _ (B1.keeps _ _ h1 fun b o' e => e) q
    have q2 : ∀ {A' : Around} {E : Value → Shared → Prop} {Q : Value → Shared → Prop}, Q (.ref (hp.push o1).objs.size) ⟨((hp.push o1).push o2), g, d, tk, os⟩ → wpAny (model prog w) A' (pyIter v2) Q E ⟨(hp.push o1), g, d, tk, os⟩ :=
      fun q => B2.iter prog w _ _ ⟨(hp.push o1), g, d, tk, os⟩ _ (B2.keeps _ _ h2 fun b o' e => (Heap.get?_push_of_some _ e)) q
    have e2 : (Str.ofString "strict" != ("strict" : Str)) = false := by decide +kernel
    wp_walk using q1, q2
    exact ⟨_, rfl, h⟩
section
variable {prog : Program} {w : World} {A : Around} {E : Value → Shared → Prop} {s : Shared}
theorem call_strictD {v1 v2 : Value} {o1 o2 : Obj} {H1 H2 : Heap → Prop} {Q : Value → Shared → Prop} (B1 : Begins v1 o1 H1) (B2 : Begins v2 o2 H2) (h1 : H1 s.heap) (h2 : H2 s.heap)
    (q : ∀ h', SZip h' (s.heap.objs.size + 4) (s.heap.objs.size + 2) (s.heap.objs.size + 3) .none → IsPair h' (s.heap.objs.size + 2) (.ref s.heap.objs.size) (.ref (s.heap.objs.size + 1)) → IsPair h' (s.heap.objs.size + 3) .none .none →
      h'.get? s.heap.objs.size = some o1 → h'.get? (s.heap.objs.size + 1) = some o2 → (∀ c o, s.heap.get? c = some o → h'.get? c = some o) → Q (.ref (s.heap.objs.size + 4)) { s with heap := h' }) :
    wpAny (model prog w) A (call (.type "zip") [v1, v2] [(Str.ofString "strict", .bool true)]) Q E s := by
  refine callType_newKw F.called_zip (by decide) (ty_call _ _) (nw_call _ _) (fun o => in_args o _ _) F.entry_zip_new (new_meetsD B1 B2) ⟨⟨h1, h2⟩, ?_⟩
  have z1 : (s.heap.push o1).objs.size = s.heap.objs.size + 1 := by rw [Heap.size_push]
  have z2 : ((s.heap.push o1).push o2).objs.size = s.heap.objs.size + 2 := by rw [Heap.size_push, z1]
  have zT : (dT2 s.heap o1 o2).objs.size = s.heap.objs.size + 3 := by rw [Heap.size_push, z2]
  have zO : (dO2 s.heap o1 o2).objs.size = s.heap.objs.size + 4 := by rw [Heap.size_push, zT]
  have gZ : (dZ2 s.heap o1 o2).get? (dO2 s.heap o1 o2).objs.size = some { cls := .type "zip", data := .fields #[.none, .bool false, .bool true, .ref ((s.heap.push o1).push o2).objs.size, .ref (dT2 s.heap o1 o2).objs.size] } := Heap.get?_push_size _ rfl
  have gO : (dZ2 s.heap o1 o2).get? (dT2 s.heap o1 o2).objs.size = some { cls := .type "tuple", data := .seq #[.none, .none] } := Heap.get?_push_of_some _ (Heap.get?_push_size _ rfl)
  have gT : (dZ2 s.heap o1 o2).get? ((s.heap.push o1).push o2).objs.size = some { cls := .type "tuple", data := .seq #[.ref s.heap.objs.size, .ref (s.heap.push o1).objs.size] } := Heap.get?_push_of_some _ (Heap.get?_push_of_some _ (Heap.get?_push_size _ rfl))
  have g1 : (dZ2 s.heap o1 o2).get? s.heap.objs.size = some o1 := Heap.get?_push_of_some _ (Heap.get?_push_of_some _ (Heap.get?_push_of_some _ (Heap.get?_push_of_some _ (Heap.get?_push_size _ B1.free))))
  have g2 : (dZ2 s.heap o1 o2).get? (s.heap.push o1).objs.size = some o2 := Heap.get?_push_of_some _ (Heap.get?_push_of_some _ (Heap.get?_push_of_some _ (Heap.get?_push_size _ B2.free)))
  rw [zO, zT, z2] at gZ
  rw [zT] at gO
  rw [z2, z1] at gT
  rw [z1] at g2
  show _ ∧ _
  rw [zO]
  exact ⟨⟨_, gZ, rfl⟩, q _ gZ gT gO g1 g2 fun c o e => Heap.get?_push_of_some _ (Heap.get?_push_of_some _ (Heap.get?_push_of_some _ (Heap.get?_push_of_some _ (Heap.get?_push_of_some _ e))))⟩
end
end DZ
namespace DL
open PySem PySem.Spec PyProof.Rows L2
theorem neX (I a : Nat) (ha : a < I) : a ≠ I + 1 := by omega
theorem sepX (I a : Nat) (ha : a < I) : ZipSep2 (I + 4) (I + 2) (I + 3) I (I + 1) [I] [I + 1, a] := by
  constructor <;> first | (intro z; simp only [List.mem_cons, List.not_mem_nil, or_false] at z; rcases z with z | z <;> exact absurd z (PySem.W.neN (by omega))) | (intro z; simp only [List.mem_cons, List.not_mem_nil, or_false] at z; exact absurd z (PySem.W.neN (by omega))) | (refine PySem.W.neN ?_; omega) | simp
def ItXT (K : PySem.W.Frag) (x : Str) (a : Addr) : It :=
  ⟨fun i H => ∃ (vs : List V) (y : V), SqT K H a vs ∧ i < x.cps.size ∧ vs.length = x.cps.size ∧ vs[i]? = some y,
    fun i H v H' => ∃ T c y, v = .ref T ∧ H T = none ∧ H' = upd H T (.tup [.str ⟨#[c]⟩, y]) ∧ x.cps[i]? = some c ∧ ∀ vs, SqT K H a vs → vs[i]? = some y,
    fun i H => ∃ vs : List V, SqT K H a vs ∧ vs.length = x.cps.size ∧ x.cps.size ≤ i⟩
theorem turn_XT {P : Program} {w : World} {K : PySem.W.Frag} {elts : List Expr} {kk : Nat} {tpos : Pos} {a z TI TO i1 i2 : Addr} (x : Str) (t : Tok) (D : ZipSep2 z TI TO i1 i2 [i1] [i2, a]) (na : a ≠ i2) :
    Turn P w K (.Tuple elts kk tpos) (ItXT K x a) [z, TI, TO, i1, i2] z (fun i h => DZ.SZip h z TI TO .none ∧ IsPair h TI (.ref i1) (.ref i2) ∧ (∃ x y, IsPair h TO x y) ∧ h.IsStrIter i1 (strIterType x) x t i ∧ h.IsTupleIter i2 a i ∧ i ≤ x.cps.size) where
  mem := by simp
  obj := fun i h st c hc => by
    obtain ⟨f1, f2, ⟨x, y, f3⟩, ⟨o0, e0, _, d0⟩, ⟨o1, e1, _, d1⟩, _⟩ := st
    have cs : c = z ∨ c = TI ∨ c = TO ∨ c = i1 ∨ c = i2 := by simpa using hc
    rcases cs with rfl | rfl | rfl | rfl | rfl
    · exact ⟨_, f1, fun v q => nomatch q⟩
    · exact ⟨_, f2, fun v q => nomatch q⟩
    · exact ⟨_, f3, fun v q => nomatch q⟩
    · exact ⟨o0, e0, fun v q => by rw [d0] at q; cases q⟩
    · exact ⟨o1, e1, fun v q => by rw [d1] at q; cases q⟩
  keep := fun i h h' ⟨f1, f2, ⟨x, y, f3⟩, ⟨o0, e0, r0⟩, f5, f6⟩ k => ⟨k z (by simp) _ f1, k TI (by simp) _ f2, ⟨x, y, k TO (by simp) _ f3⟩, ⟨o0, k i1 (by simp) o0 e0, r0⟩, f5.at fun o q => k i2 (by simp) o q, f6⟩
  item := by
    intro X hP hw hK hc i pins s σ H E I hf st hg
    subst hP hw hK
    obtain ⟨f1, f2, ⟨x0, y0, f3⟩, f0, f4, f5⟩ := st
    obtain ⟨vs, y, qa, hx0, hl, hy⟩ := hg
    have hh := I.ok.hd hc
    have zl : z < s.heap.objs.size := Heap.lt_size f1
    obtain ⟨its, rv, pa, _⟩ := I.tuple qa
    obtain ⟨u, hu, ru⟩ := rv.get hy
    have ll : its.toArray.size = x.cps.size := by rw [List.size_toArray, rv.length.symm, hl]
    have D2 := Draws.tuple (prog := X.prog) (w := X.w) (A := X.A.in1) hh i2 a na its.toArray
    rw [ll] at D2
    refine DZ.pyNext_itemD D (Draws.text (prog := X.prog) (w := X.w) (A := X.A.in1) hh i1 x t) D2 f1 f2 f3 f0 ⟨f4, pa⟩ hx0 fun x1 x2 h1 tk p1 p2 g1 b2 d1 d2 b5 b6 b7 => ⟨_, rfl, DZ.ownedGo (s := { s with heap := h1, toks := tk }) g1 fun h2 g8 sb => ?_⟩
    obtain ⟨c, uu, hc0, rfl⟩ := p1
    have e2 : u = x2 := by
      have : its[i]? = some x2 := by simpa using p2
      rw [hu] at this
      exact Option.some.inj this
    subst e2
    have t2 : h2.get? s.heap.objs.size = some { cls := .type "tuple", data := .seq #[.str ⟨#[c]⟩ uu, u] } := (sb.2 _ (Nat.ne_of_gt zl)).trans b5
    have nw : ObjOk X.prog X.w (upd H s.heap.objs.size (.tup [.str ⟨#[c]⟩, y])) h2 s.heap.objs.size (.tup [.str ⟨#[c]⟩, y]) := ⟨by show 2 ≤ sizeLine; decide, [.str ⟨#[c]⟩ uu, u], .cons ⟨uu, rfl⟩ (.cons ru .nil), ⟨_, t2, rfl, _, rfl⟩⟩
    have I1 : Inv X pins σ (upd H s.heap.objs.size (.tup [.str ⟨#[c]⟩, y])) { s with heap := h2, toks := tk } := I.turnedNew (ch := [z, TI, TO, i1, i2]) (fun c o hb q => (sb.2 c (fun q' => hb (by simp [q']))).trans (b7 c o (fun q' => hb (by simp [q'])) (fun q' => hb (by simp [q'])) (fun q' => hb (by simp [q'])) (fun q' => hb (by simp [q'])) q)) hf (Nat.le_refl _) nw
    have d1' : h2.IsStrIter i1 (strIterType x) x t (i + 1) := by
      obtain ⟨o, q, r⟩ := d1
      exact ⟨o, (sb.2 i1 (Ne.symm D.zi1)).trans q, r⟩
    refine ⟨.ref s.heap.objs.size, _, I1, rfl, ⟨_, c, y, rfl, I.hok.fresh (Nat.le_refl _), rfl, hc0, fun l hl => by rw [I.tuple_inj hl qa]; exact hy⟩, ⟨g8, (sb.2 _ D.TIz).trans (b7 _ _ D.TIz D.TITO D.TIi1 D.TIi2 f2), ⟨_, _, (sb.2 _ D.TOz).trans b2⟩, d1', d2.1.at fun o q => (sb.2 _ (Ne.symm D.zi2)).trans q, hx0⟩, fun c hcm => ?_⟩
    have lt : c < s.heap.objs.size := by
      have cs : c = z ∨ c = TI ∨ c = TO ∨ c = i1 ∨ c = i2 := by simpa using hcm
      rcases cs with rfl | rfl | rfl | rfl | rfl
      · exact zl
      · exact Heap.lt_size f2
      · exact Heap.lt_size f3
      · obtain ⟨_, e1, _⟩ := f0; exact Heap.lt_size e1
      · obtain ⟨_, e1, _⟩ := f4; exact Heap.lt_size e1
    rw [upd_ne (Nat.ne_of_lt lt)]
    exact (hf c hcm).1
  done := by
    intro X hP hw hK hc i pins s σ H E I hf st hg
    subst hP hw hK
    obtain ⟨f1, f2, ⟨x0, y0, f3⟩, f0, f4, f5⟩ := st
    obtain ⟨vs, qa, hl, hi⟩ := hg
    have hh := I.ok.hd hc
    obtain ⟨its, rv, pa, _⟩ := I.tuple qa
    have ll : its.toArray.size = x.cps.size := by rw [List.size_toArray, rv.length.symm, hl]
    have D2 := Draws.tuple (prog := X.prog) (w := X.w) (A := X.A.in1) hh i2 a na its.toArray
    rw [ll] at D2
    have ei : i = x.cps.size := Nat.le_antisymm f5 hi
    subst ei
    exact DZ.pyNext_endD hh D (Draws.text (prog := X.prog) (w := X.w) (A := X.A.in1) hh i1 x t) D2 f1 f2 f3 f0 ⟨f4, pa⟩ fun h' hk => ⟨rfl, I.turnedL (t' := s.toks) (ch := [z, TI, TO, i1, i2]) (fun c o hb q => hk c o (fun q' => hb (by simp [q'])) (fun q' => hb (by simp [q'])) (fun q' => hb (by simp [q'])) (fun q' => hb (by simp [q'])) q) hf⟩
  self := fun A i s Q E st h => DZ.pyIter_z st.1 h
def iZipXT (K : PySem.W.Frag) (ta : TA) : TI := fun σ H R => ta σ H fun vs H1 => ∃ x a ws, vs = [.str x, .ref a] ∧ SqT K H1 a ws ∧ R (ItXT K x a) H1
section
variable {X : Cx} {ss ts : List Slot} {e e2 : Expr} {elts : List Expr} {pos p tpos kp kp2 : Pos} {kk j : Nat} {ta : TA} {Ψ : List Slot → List Slot → List El → Prop}
theorem pi_zipXT (hg : Gl X "zip") (hm : X.mg "zip" = none) (ha : PA X [e, e2] ta) (hs : starEach [e, e2] X.env = (false, eval e X.env) :: starEach [e2] X.env) (hpl : (backTo pos (starEach [e2] X.env)).any (·.1) = false)
    (hbt : backTo pos (starEach (e :: [e2]) X.env) = (false, eval e X.env) :: backTo pos (starEach [e2] X.env)) (hp2 : (backTo pos (starEach (e :: [e2]) X.env)).any (·.1) = false)
    (hk1 : (backToKw pos (keywordEach [⟨some (Str.ofString "strict"), .Constant (.bool true) j kp, kp2⟩] X.env)).all (·.1.isSome) = true) (hk2 : (backToKw pos (keywordEach [⟨some (Str.ofString "strict"), .Constant (.bool true) j kp, kp2⟩] X.env)).any (·.1.isNone) = false) :
    PI X (.Tuple elts kk tpos) (.Call (.Name "zip" p) [e, e2] [⟨some (Str.ofString "strict"), .Constant (.bool true) j kp, kp2⟩] pos) (iZipXT X.K ta) := by
  refine ⟨fun pins s σ H R I h => ?_⟩
  refine wpAny_Call_Name_kw (ld_blt I hg hm PyProof.Rows.boot_zip (callWith_tyK (thn (ha.run pos pins s σ H _ I h) fun us s1 ⟨vs, H1, I1, r1, q1⟩ => ?_) hbt hp2 hk1 hk2))
  refine kws_cons ?_
  refine wpAny_mono ((pe_bl (X := X) (b := true) (j := j) (pos := kp)).run pins s1 σ H1 (fun v H2 => v = .bl true ∧ H2 = H1) I1 ⟨rfl, rfl⟩) (fun u s2 ⟨v, H2, I2, rv, ev, eH⟩ => ?_) fun _ _ x => x
  subst ev
  rw [eH] at I2
  cases (show u = Value.bool true from rv)
  refine kws_nil ?_
  obtain ⟨x, a, ws, ex, qa, q⟩ := q1
  subst ex
  cases r1 with
  | cons ra rr =>
    cases rr with
    | cons rb rr =>
      cases rr
      obtain ⟨t, rfl⟩ := ra
      cases rb
      have fr5 : ∀ c, c ∈ [s2.heap.objs.size + 4, s2.heap.objs.size + 2, s2.heap.objs.size + 3, s2.heap.objs.size, s2.heap.objs.size + 1] → FpOk X pins H1 c := fun c hc => by
        have cs : c = s2.heap.objs.size + 4 ∨ c = s2.heap.objs.size + 2 ∨ c = s2.heap.objs.size + 3 ∨ c = s2.heap.objs.size ∨ c = s2.heap.objs.size + 1 := by simpa using hc
        have le : s2.heap.objs.size ≤ c := by omega
        exact I2.fpOk le (I2.hok.fresh le)
      obtain ⟨its, _, pa, _⟩ := I2.tuple qa
      have al : a < s2.heap.objs.size := by obtain ⟨o, ho, _⟩ := pa; exact Heap.lt_size ho
      refine DZ.call_strictD (begins_text x t) (begins_tuple a its.toArray) trivial pa fun h' hz hTI hTO h1 h2 hk => DZ.pyIter_z hz ?_
      have I3 : Inv X pins σ H1 { s2 with heap := h' } := I2.kept (t' := s2.toks) hk
      exact ⟨s2.heap.objs.size + 4, [s2.heap.objs.size + 4, s2.heap.objs.size + 2, s2.heap.objs.size + 3, s2.heap.objs.size, s2.heap.objs.size + 1], _, _, H1, rfl, I3, turn_XT x t (sepX s2.heap.objs.size a al) (neX _ _ al), ⟨hz, hTI, ⟨_, _, hTO⟩, ⟨_, h1, rfl, rfl⟩, ⟨_, h2, rfl, rfl⟩, Nat.zero_le _⟩, fr5, q⟩
end
def ItXL (K : PySem.W.Frag) (x : Str) (a : Addr) : It :=
  ⟨fun i H => ∃ (vs : List V) (y : V), SqL K H a vs ∧ i < x.cps.size ∧ vs.length = x.cps.size ∧ vs[i]? = some y,
    fun i H v H' => ∃ T c y, v = .ref T ∧ H T = none ∧ H' = upd H T (.tup [.str ⟨#[c]⟩, y]) ∧ x.cps[i]? = some c ∧ ∀ vs, SqL K H a vs → vs[i]? = some y,
    fun i H => ∃ vs : List V, SqL K H a vs ∧ vs.length = x.cps.size ∧ x.cps.size ≤ i⟩
theorem turn_XL {P : Program} {w : World} {K : PySem.W.Frag} {elts : List Expr} {kk : Nat} {tpos : Pos} {a z TI TO i1 i2 : Addr} (x : Str) (t : Tok) (D : ZipSep2 z TI TO i1 i2 [i1] [i2, a]) (na : a ≠ i2) :
    Turn P w K (.Tuple elts kk tpos) (ItXL K x a) [z, TI, TO, i1, i2] z (fun i h => DZ.SZip h z TI TO .none ∧ IsPair h TI (.ref i1) (.ref i2) ∧ (∃ x y, IsPair h TO x y) ∧ h.IsStrIter i1 (strIterType x) x t i ∧ h.IsListIter i2 a i ∧ i ≤ x.cps.size) where
  mem := by simp
  obj := fun i h st c hc => by
    obtain ⟨f1, f2, ⟨x, y, f3⟩, ⟨o0, e0, _, d0⟩, ⟨o1, e1, _, d1⟩, _⟩ := st
    have cs : c = z ∨ c = TI ∨ c = TO ∨ c = i1 ∨ c = i2 := by simpa using hc
    rcases cs with rfl | rfl | rfl | rfl | rfl
    · exact ⟨_, f1, fun v q => nomatch q⟩
    · exact ⟨_, f2, fun v q => nomatch q⟩
    · exact ⟨_, f3, fun v q => nomatch q⟩
    · exact ⟨o0, e0, fun v q => by rw [d0] at q; cases q⟩
    · exact ⟨o1, e1, fun v q => by rw [d1] at q; cases q⟩
  keep := fun i h h' ⟨f1, f2, ⟨x, y, f3⟩, ⟨o0, e0, r0⟩, f5, f6⟩ k => ⟨k z (by simp) _ f1, k TI (by simp) _ f2, ⟨x, y, k TO (by simp) _ f3⟩, ⟨o0, k i1 (by simp) o0 e0, r0⟩, f5.at fun o q => k i2 (by simp) o q, f6⟩
  item := by
    intro X hP hw hK hc i pins s σ H E I hf st hg
    subst hP hw hK
    obtain ⟨f1, f2, ⟨x0, y0, f3⟩, f0, f4, f5⟩ := st
    obtain ⟨vs, y, qa, hx0, hl, hy⟩ := hg
    have hh := I.ok.hd hc
    have zl : z < s.heap.objs.size := Heap.lt_size f1
    obtain ⟨its, rv, pa, _⟩ := I.list qa
    obtain ⟨u, hu, ru⟩ := rv.get hy
    have ll : its.toArray.size = x.cps.size := by rw [List.size_toArray, rv.length.symm, hl]
    have D2 := Draws.list (prog := X.prog) (w := X.w) (A := X.A.in1) hh i2 a na its.toArray
    rw [ll] at D2
    refine DZ.pyNext_itemD D (Draws.text (prog := X.prog) (w := X.w) (A := X.A.in1) hh i1 x t) D2 f1 f2 f3 f0 ⟨f4, pa.isList⟩ hx0 fun x1 x2 h1 tk p1 p2 g1 b2 d1 d2 b5 b6 b7 => ⟨_, rfl, DZ.ownedGo (s := { s with heap := h1, toks := tk }) g1 fun h2 g8 sb => ?_⟩
    obtain ⟨c, uu, hc0, rfl⟩ := p1
    have e2 : u = x2 := by
      have : its[i]? = some x2 := by simpa using p2
      rw [hu] at this
      exact Option.some.inj this
    subst e2
    have t2 : h2.get? s.heap.objs.size = some { cls := .type "tuple", data := .seq #[.str ⟨#[c]⟩ uu, u] } := (sb.2 _ (Nat.ne_of_gt zl)).trans b5
    have nw : ObjOk X.prog X.w (upd H s.heap.objs.size (.tup [.str ⟨#[c]⟩, y])) h2 s.heap.objs.size (.tup [.str ⟨#[c]⟩, y]) := ⟨by show 2 ≤ sizeLine; decide, [.str ⟨#[c]⟩ uu, u], .cons ⟨uu, rfl⟩ (.cons ru .nil), ⟨_, t2, rfl, _, rfl⟩⟩
    have I1 : Inv X pins σ (upd H s.heap.objs.size (.tup [.str ⟨#[c]⟩, y])) { s with heap := h2, toks := tk } := I.turnedNew (ch := [z, TI, TO, i1, i2]) (fun c o hb q => (sb.2 c (fun q' => hb (by simp [q']))).trans (b7 c o (fun q' => hb (by simp [q'])) (fun q' => hb (by simp [q'])) (fun q' => hb (by simp [q'])) (fun q' => hb (by simp [q'])) q)) hf (Nat.le_refl _) nw
    have d1' : h2.IsStrIter i1 (strIterType x) x t (i + 1) := by
      obtain ⟨o, q, r⟩ := d1
      exact ⟨o, (sb.2 i1 (Ne.symm D.zi1)).trans q, r⟩
    refine ⟨.ref s.heap.objs.size, _, I1, rfl, ⟨_, c, y, rfl, I.hok.fresh (Nat.le_refl _), rfl, hc0, fun l hl => by rw [I.list_inj hl qa]; exact hy⟩, ⟨g8, (sb.2 _ D.TIz).trans (b7 _ _ D.TIz D.TITO D.TIi1 D.TIi2 f2), ⟨_, _, (sb.2 _ D.TOz).trans b2⟩, d1', d2.1.at fun o q => (sb.2 _ (Ne.symm D.zi2)).trans q, hx0⟩, fun c hcm => ?_⟩
    have lt : c < s.heap.objs.size := by
      have cs : c = z ∨ c = TI ∨ c = TO ∨ c = i1 ∨ c = i2 := by simpa using hcm
      rcases cs with rfl | rfl | rfl | rfl | rfl
      · exact zl
      · exact Heap.lt_size f2
      · exact Heap.lt_size f3
      · obtain ⟨_, e1, _⟩ := f0; exact Heap.lt_size e1
      · obtain ⟨_, e1, _⟩ := f4; exact Heap.lt_size e1
    rw [upd_ne (Nat.ne_of_lt lt)]
    exact (hf c hcm).1
  done := by
    intro X hP hw hK hc i pins s σ H E I hf st hg
    subst hP hw hK
    obtain ⟨f1, f2, ⟨x0, y0, f3⟩, f0, f4, f5⟩ := st
    obtain ⟨vs, qa, hl, hi⟩ := hg
    have hh := I.ok.hd hc
    obtain ⟨its, rv, pa, _⟩ := I.list qa
    have ll : its.toArray.size = x.cps.size := by rw [List.size_toArray, rv.length.symm, hl]
    have D2 := Draws.list (prog := X.prog) (w := X.w) (A := X.A.in1) hh i2 a na its.toArray
    rw [ll] at D2
    have ei : i = x.cps.size := Nat.le_antisymm f5 hi
    subst ei
    exact DZ.pyNext_endD hh D (Draws.text (prog := X.prog) (w := X.w) (A := X.A.in1) hh i1 x t) D2 f1 f2 f3 f0 ⟨f4, pa.isList⟩ fun h' hk => ⟨rfl, I.turnedL (t' := s.toks) (ch := [z, TI, TO, i1, i2]) (fun c o hb q => hk c o (fun q' => hb (by simp [q'])) (fun q' => hb (by simp [q'])) (fun q' => hb (by simp [q'])) (fun q' => hb (by simp [q'])) q) hf⟩
  self := fun A i s Q E st h => DZ.pyIter_z st.1 h
def iZipXL (K : PySem.W.Frag) (ta : TA) : TI := fun σ H R => ta σ H fun vs H1 => ∃ x a ws, vs = [.str x, .ref a] ∧ SqL K H1 a ws ∧ R (ItXL K x a) H1
section
variable {X : Cx} {ss ts : List Slot} {e e2 : Expr} {elts : List Expr} {pos p tpos kp kp2 : Pos} {kk j : Nat} {ta : TA} {Ψ : List Slot → List Slot → List El → Prop}
theorem pi_zipXL (hg : Gl X "zip") (hm : X.mg "zip" = none) (ha : PA X [e, e2] ta) (hs : starEach [e, e2] X.env = (false, eval e X.env) :: starEach [e2] X.env) (hpl : (backTo pos (starEach [e2] X.env)).any (·.1) = false)
    (hbt : backTo pos (starEach (e :: [e2]) X.env) = (false, eval e X.env) :: backTo pos (starEach [e2] X.env)) (hp2 : (backTo pos (starEach (e :: [e2]) X.env)).any (·.1) = false)
    (hk1 : (backToKw pos (keywordEach [⟨some (Str.ofString "strict"), .Constant (.bool true) j kp, kp2⟩] X.env)).all (·.1.isSome) = true) (hk2 : (backToKw pos (keywordEach [⟨some (Str.ofString "strict"), .Constant (.bool true) j kp, kp2⟩] X.env)).any (·.1.isNone) = false) :
    PI X (.Tuple elts kk tpos) (.Call (.Name "zip" p) [e, e2] [⟨some (Str.ofString "strict"), .Constant (.bool true) j kp, kp2⟩] pos) (iZipXL X.K ta) := by
  refine ⟨fun pins s σ H R I h => ?_⟩
  refine wpAny_Call_Name_kw (ld_blt I hg hm PyProof.Rows.boot_zip (callWith_tyK (thn (ha.run pos pins s σ H _ I h) fun us s1 ⟨vs, H1, I1, r1, q1⟩ => ?_) hbt hp2 hk1 hk2))
  refine kws_cons ?_
  refine wpAny_mono ((pe_bl (X := X) (b := true) (j := j) (pos := kp)).run pins s1 σ H1 (fun v H2 => v = .bl true ∧ H2 = H1) I1 ⟨rfl, rfl⟩) (fun u s2 ⟨v, H2, I2, rv, ev, eH⟩ => ?_) fun _ _ x => x
  subst ev
  rw [eH] at I2
  cases (show u = Value.bool true from rv)
  refine kws_nil ?_
  obtain ⟨x, a, ws, ex, qa, q⟩ := q1
  subst ex
  cases r1 with
  | cons ra rr =>
    cases rr with
    | cons rb rr =>
      cases rr
      obtain ⟨t, rfl⟩ := ra
      cases rb
      have fr5 : ∀ c, c ∈ [s2.heap.objs.size + 4, s2.heap.objs.size + 2, s2.heap.objs.size + 3, s2.heap.objs.size, s2.heap.objs.size + 1] → FpOk X pins H1 c := fun c hc => by
        have cs : c = s2.heap.objs.size + 4 ∨ c = s2.heap.objs.size + 2 ∨ c = s2.heap.objs.size + 3 ∨ c = s2.heap.objs.size ∨ c = s2.heap.objs.size + 1 := by simpa using hc
        have le : s2.heap.objs.size ≤ c := by omega
        exact I2.fpOk le (I2.hok.fresh le)
      obtain ⟨its, _, pa, _⟩ := I2.list qa
      have al : a < s2.heap.objs.size := by obtain ⟨o, ho, _⟩ := pa.isList; exact Heap.lt_size ho
      refine DZ.call_strictD (begins_text x t) (begins_list a its.toArray) trivial pa.isList fun h' hz hTI hTO h1 h2 hk => DZ.pyIter_z hz ?_
      have I3 : Inv X pins σ H1 { s2 with heap := h' } := I2.kept (t' := s2.toks) hk
      exact ⟨s2.heap.objs.size + 4, [s2.heap.objs.size + 4, s2.heap.objs.size + 2, s2.heap.objs.size + 3, s2.heap.objs.size, s2.heap.objs.size + 1], _, _, H1, rfl, I3, turn_XL x t (sepX s2.heap.objs.size a al) (neX _ _ al), ⟨hz, hTI, ⟨_, _, hTO⟩, ⟨_, h1, rfl, rfl⟩, ⟨_, h2, rfl, rfl⟩, Nat.zero_le _⟩, fr5, q⟩
end
end DL
namespace DL
open PySem PySem.Spec PyProof.Rows L2
section
variable {K : PySem.W.Frag} {m : Nat → Prop} {B H : Hp} {o : Own} {v : V} {r : Slot} {ds : List D}
theorem SlotOk.itemT {fp : Own → List Addr} {n : Nat} (h : SlotOk K B H fp m (.t n) (some v) r) (b : Ex B H) (hr : r.is (.tup ds)) (hn : m n) :
    ∃ a vs, v = .ref a ∧ SqT K H a vs ∧ vs.length = ds.length ∧ ∀ (i : Nat) (d : D), ds[i]? = some d → ∃ w, vs[i]? = some w ∧ RepR K H d w ∧ SlotOk K B H fp m (.t n) (some w) (sub n r d) := by
  rcases hr with rfl | rfl | ⟨o', rfl⟩
  · obtain ⟨w, e1, e2⟩ := h
    cases e1
    have q := e2.toR (P := fun a => a ∈ fp (.t n) ∨ (B a).isSome = true) fun a ha => .inl ha
    unfold RepR at q
    obtain ⟨a, vs, rfl, e3, e4⟩ := q
    refine ⟨a, vs, rfl, Ex.sqt restr_ex e3, e4.length, fun i d hd => ?_⟩
    obtain ⟨w, h1, h2⟩ := e4.get hd
    exact ⟨w, h1, h2.mono restr_ex, hn, w, rfl, h2⟩
  · obtain ⟨w, e1, e2⟩ := h
    cases e1
    unfold RepR at e2
    obtain ⟨a, vs, rfl, e3, e4⟩ := e2
    refine ⟨a, vs, rfl, Ex.sqt b e3, e4.length, fun i d hd => ?_⟩
    obtain ⟨w, h1, h2⟩ := e4.get hd
    exact ⟨w, h1, h2.mono b, w, rfl, h2⟩
  · obtain ⟨z, w, e1, e2⟩ := h
    cases e1
    unfold RepR at e2
    obtain ⟨a, vs, rfl, e3, e4⟩ := e2
    refine ⟨a, vs, rfl, Ex.sqt restr_ex e3, e4.length, fun i d hd => ?_⟩
    obtain ⟨w, h1, h2⟩ := e4.get hd
    exact ⟨w, h1, h2.mono restr_ex, z, w, rfl, h2⟩
end
section
variable {X : Cx} {ss ts : List Slot} {Φ : List Slot → Slot → Prop} {e e2 l b fe tg : Expr} {es elts : List Expr} {p p2 pos tpos kp kp2 : Pos} {j kk k : Nat} {Ψ : List Slot → List Slot → List El → Prop} {ps : List Str} {f : Addr} {fd : FuncData} {F : List D → (D → Prop) → Prop}
theorem eCutT (h : EV X l ss ts fun s1 r1 => EV X b s1 (r1 :: ts) fun s r2 => ∃ d ds, r1 = .par (.tup (d :: ds)) ∧ r2 = .own (.int 1) ∧ Φ s (.view (.v 0) (.tup ds))) :
    EV X (.Subscript l (.Slice (some b) none none p2) pos) ss ts Φ := fun m B σ tv H Q hm hh k => by
  refine toE (pe_slice sl_tup pe_w (po_some pe_w) po_none) ?_
  refine h m B σ tv H _ hm hh fun s1 r1 x H1 h1 hh1 => ?_
  refine h1 m B σ (x :: tv) H1 _ hm.up hh1 fun s r2 y H2 hq hh2 => ?_
  obtain ⟨d, ds, rfl, rfl, q⟩ := hq
  have hy := hh2.top Slot.is_own
  rw [rep_int] at hy
  subst hy
  have hh3 := hh2.pop hm.up
  obtain ⟨fp, hf⟩ := hh3
  obtain ⟨w, e1, r1⟩ := hf.top
  cases e1
  unfold RepR at r1
  obtain ⟨a, vs, rfl, sq, rr⟩ := r1
  have rr0 := rr
  unfold RepRs at rr0
  obtain ⟨v0, vs', rfl, _, rr'⟩ := rr0
  refine ⟨1, rfl, a, _, rfl, Ex.sqt hf.base sq, ?_, fun p hp => ?_⟩
  · intro z
    have z1 := z.1
    rw [show (1 : Int) = ((1 : Nat) : Int) from rfl, HT.sIx_nat, List.length_cons] at z1
    omega
  have ecut : cutV (v0 :: vs') (some 1) none = vs' := by
    unfold cutV
    rw [HT.sIx_none, show (1 : Int) = ((1 : Nat) : Int) from rfl, HT.sIx_nat, List.length_cons, Nat.min_eq_left (by omega), List.drop_succ_cons, List.drop_zero, Nat.add_sub_cancel, List.take_length]
  rw [ecut]
  have exx := Ex.new (o := .tup vs') hp
  refine k s _ _ _ q ⟨_, ((hf.pop hm).ex exx).pushV (o := .t ts.length) (fun _ z => nomatch z) ⟨trivial, .ref p, rfl, ?_⟩⟩
  unfold RepR
  have st : restr (upd H2 p (.tup vs')) (fun a => a ∈ fp (.v 0) ∨ (B a).isSome = true) p = some (.tup vs') := by
    unfold restr
    rw [if_pos (.inr ⟨_, upd_same, trivial⟩), upd_same]
  refine ⟨p, vs', rfl, SqT.of st, rr'.mono fun c o hc => ?_⟩
  have h2 := (hf.base.trans exx) c o hc
  rw [restr_at (.inr (by rw [hc]; rfl)), h2]
theorem wZipXT (hm : X.mg "zip" = none) (h : EV X e ss ts fun s1 r1 => EV X e2 s1 (r1 :: ts) fun s r2 => s1K (fun z => d1K (fun d2 => ∃ es, d2 = .tup es ∧ z.cps.toList.length = es.length ∧ Ψ s [r2, r1] ((z.cps.toList.zip es).map fun p => .two (.own (.str ⟨#[p.1]⟩)) (it (ts.length + 1) r2 p.2))) r2) r1)
    (hg : Gl X "zip" := by rfl) (hs : starEach [e, e2] X.env = (false, eval e X.env) :: starEach [e2] X.env := by rfl) (hs2 : starEach [e2] X.env = (false, eval e2 X.env) :: starEach [] X.env := by rfl) (hpl : (backTo pos (starEach [e2] X.env)).any (·.1) = false := by rfl)
    (hbt : backTo pos (starEach (e :: [e2]) X.env) = (false, eval e X.env) :: backTo pos (starEach [e2] X.env) := by rfl) (hp2 : (backTo pos (starEach (e :: [e2]) X.env)).any (·.1) = false := by rfl)
    (hk1 : (backToKw pos (keywordEach [⟨some (Str.ofString "strict"), .Constant (.bool true) j kp, kp2⟩] X.env)).all (·.1.isSome) = true := by rfl) (hk2 : (backToKw pos (keywordEach [⟨some (Str.ofString "strict"), .Constant (.bool true) j kp, kp2⟩] X.env)).any (·.1.isNone) = false := by rfl) :
    IV X (.Tuple elts kk tpos) (.Call (.Name "zip" p) [e, e2] [⟨some (Str.ofString "strict"), .Constant (.bool true) j kp, kp2⟩] pos) ss ts Ψ := fun m B σ tv H R hm' hh k => by
  refine toI (pi_zipXT hg hm (pa_cons pe_w (pa_cons pe_w pa_nil hs2) hs) hs hpl hbt hp2 hk1 hk2) ?_
  refine h m B σ tv H _ hm' hh fun s1 r1 x H1 h1 hh1 => ?_
  refine h1 m B σ (x :: tv) H1 _ hm'.up hh1 fun s r2 y H2 hq hh2 => ?_
  obtain ⟨z, e0, hq⟩ := s1K_of hq
  obtain ⟨d2, i2, es, rfl, hl, q⟩ := d1K_of hq
  have za := hh2.top2 (d := .str z) (by rw [e0]; exact Slot.is_own)
  rw [rep_str] at za
  subst za
  have zb := hh2.top i2
  unfold RepR at zb
  obtain ⟨b, ws, rfl, b1, b2⟩ := zb
  refine ⟨z, b, ws, rfl, b1, k s [r2, r1] [.ref b, .str z] _ _ H2 q rfl hh2 ?_⟩
  intro m' B' H' σ' ss' ev es' tv' ts' h' hlen hle hmm
  obtain ⟨fp, hf⟩ := h'
  have mb : m' (ts.length + 1) := hmm _ (by omega) (by simp)
  have w1 := HeldF.at (v := .ref b) (r := r2) (ts := r1 :: ts') (tv := .str z :: tv') hf hlen
  rw [List.length_cons, hle] at w1
  obtain ⟨b', ws', eb, c1, c2, c3⟩ := w1.itemT hf.base i2 mb
  cases eb
  have zl : z.cps.size = z.cps.toList.length := by rw [Array.length_toList]
  refine ⟨fun i el hi => ?_, fun i hi => ⟨ws', c1, by omega, by rw [List.length_map, List.length_zip] at hi; omega⟩⟩
  obtain ⟨pr, hpr, rfl⟩ := els_get hi
  obtain ⟨hd, he⟩ := List.getElem?_zip_eq_some.mp hpr
  obtain ⟨v, v1, v2, v3⟩ := c3 i pr.2 he
  have li := getElem?_lt hd
  refine ⟨⟨ws', v, c1, by omega, by omega, v1⟩, fun x H3 y => ?_⟩
  obtain ⟨T, c, u, ex, hT, eH, y1, y2⟩ := y
  rw [Array.getElem?_toList] at hd
  rw [hd] at y1
  cases y1
  have ex2 : u = v := by
    have z := y2 ws' c1
    rw [v1] at z
    exact (Option.some.inj z).symm
  subst ex2 ex eH
  have exx := Ex.new (o := .tup [.str ⟨#[pr.1]⟩, u]) hT
  have os : RepO X.K (upd H' T (.tup [.str ⟨#[pr.1]⟩, u])) (.str ⟨#[pr.1]⟩) (.str ⟨#[pr.1]⟩) [] := by unfold RepO; exact ⟨rfl, rfl⟩
  have g1 := (hf.ex exx).pushF os
  have g2 := g1.pushIt (v2.mono exx) (SlotOk.later (r := r2) (hf.ex exx) (SlotOk.exx hf v3 exx))
  exact ⟨T, .str ⟨#[pr.1]⟩, u, rfl, .inl (.inl upd_same), _, g2⟩
theorem wZipXL (hm : X.mg "zip" = none) (h : EV X e ss ts fun s1 r1 => EV X e2 s1 (r1 :: ts) fun s r2 => s1K (fun z => d1K (fun d2 => ∃ es, d2 = .lst es ∧ z.cps.toList.length = es.length ∧ Ψ s [r2, r1] ((z.cps.toList.zip es).map fun p => .two (.own (.str ⟨#[p.1]⟩)) (it (ts.length + 1) r2 p.2))) r2) r1)
    (hg : Gl X "zip" := by rfl) (hs : starEach [e, e2] X.env = (false, eval e X.env) :: starEach [e2] X.env := by rfl) (hs2 : starEach [e2] X.env = (false, eval e2 X.env) :: starEach [] X.env := by rfl) (hpl : (backTo pos (starEach [e2] X.env)).any (·.1) = false := by rfl)
    (hbt : backTo pos (starEach (e :: [e2]) X.env) = (false, eval e X.env) :: backTo pos (starEach [e2] X.env) := by rfl) (hp2 : (backTo pos (starEach (e :: [e2]) X.env)).any (·.1) = false := by rfl)
    (hk1 : (backToKw pos (keywordEach [⟨some (Str.ofString "strict"), .Constant (.bool true) j kp, kp2⟩] X.env)).all (·.1.isSome) = true := by rfl) (hk2 : (backToKw pos (keywordEach [⟨some (Str.ofString "strict"), .Constant (.bool true) j kp, kp2⟩] X.env)).any (·.1.isNone) = false := by rfl) :
    IV X (.Tuple elts kk tpos) (.Call (.Name "zip" p) [e, e2] [⟨some (Str.ofString "strict"), .Constant (.bool true) j kp, kp2⟩] pos) ss ts Ψ := fun m B σ tv H R hm' hh k => by
  refine toI (pi_zipXL hg hm (pa_cons pe_w (pa_cons pe_w pa_nil hs2) hs) hs hpl hbt hp2 hk1 hk2) ?_
  refine h m B σ tv H _ hm' hh fun s1 r1 x H1 h1 hh1 => ?_
  refine h1 m B σ (x :: tv) H1 _ hm'.up hh1 fun s r2 y H2 hq hh2 => ?_
  obtain ⟨z, e0, hq⟩ := s1K_of hq
  obtain ⟨d2, i2, es, rfl, hl, q⟩ := d1K_of hq
  have za := hh2.top2 (d := .str z) (by rw [e0]; exact Slot.is_own)
  rw [rep_str] at za
  subst za
  have zb := hh2.top i2
  unfold RepR at zb
  obtain ⟨b, ws, rfl, b1, b2⟩ := zb
  refine ⟨z, b, ws, rfl, SqL.of b1, k s [r2, r1] [.ref b, .str z] _ _ H2 q rfl hh2 ?_⟩
  intro m' B' H' σ' ss' ev es' tv' ts' h' hlen hle hmm
  obtain ⟨fp, hf⟩ := h'
  have mb : m' (ts.length + 1) := hmm _ (by omega) (by simp)
  have w1 := HeldF.at (v := .ref b) (r := r2) (ts := r1 :: ts') (tv := .str z :: tv') hf hlen
  rw [List.length_cons, hle] at w1
  obtain ⟨b', ws', eb, c1, c2, c3⟩ := w1.item hf.base i2 mb
  cases eb
  have zl : z.cps.size = z.cps.toList.length := by rw [Array.length_toList]
  refine ⟨fun i el hi => ?_, fun i hi => ⟨ws', (SqL.of c1), by omega, by rw [List.length_map, List.length_zip] at hi; omega⟩⟩
  obtain ⟨pr, hpr, rfl⟩ := els_get hi
  obtain ⟨hd, he⟩ := List.getElem?_zip_eq_some.mp hpr
  obtain ⟨v, v1, v2, v3⟩ := c3 i pr.2 he
  have li := getElem?_lt hd
  refine ⟨⟨ws', v, (SqL.of c1), by omega, by omega, v1⟩, fun x H3 y => ?_⟩
  obtain ⟨T, c, u, ex, hT, eH, y1, y2⟩ := y
  rw [Array.getElem?_toList] at hd
  rw [hd] at y1
  cases y1
  have ex2 : u = v := by
    have z := y2 ws' (SqL.of c1)
    rw [v1] at z
    exact (Option.some.inj z).symm
  subst ex2 ex eH
  have exx := Ex.new (o := .tup [.str ⟨#[pr.1]⟩, u]) hT
  have os : RepO X.K (upd H' T (.tup [.str ⟨#[pr.1]⟩, u])) (.str ⟨#[pr.1]⟩) (.str ⟨#[pr.1]⟩) [] := by unfold RepO; exact ⟨rfl, rfl⟩
  have g1 := (hf.ex exx).pushF os
  have g2 := g1.pushIt (v2.mono exx) (SlotOk.later (r := r2) (hf.ex exx) (SlotOk.exx hf v3 exx))
  exact ⟨T, .str ⟨#[pr.1]⟩, u, rfl, .inl (.inl upd_same), _, g2⟩
theorem eTupOf (hm : X.mg "tuple" = none) (h : EV X e ss ts fun s r => ∃ ds, r = .own (.lst ds) ∧ Φ s (.own (.tup ds))) (hg : Gl X "tuple" := by rfl)
    (he : starEach [e] X.env = (false, eval e X.env) :: starEach [] X.env := by rfl) : EV X (.Call (.Name "tuple" p) [e] [] pos) ss ts Φ := fun m B σ tv H Q hm' hh k => by
  refine toE (pe_tupleOf hg hm pe_w he) ?_
  refine h m B σ tv H _ hm' hh fun s r x H1 hq hh1 => ?_
  obtain ⟨ds, rfl, q⟩ := hq
  obtain ⟨fp, hf⟩ := hh1
  obtain ⟨fp1, G, h1, _, r, nd, dj, ot, tt⟩ := hf.take hm'
  unfold RepO at r
  obtain ⟨a, vs, G2, rfl, ha, rfl, ro⟩ := r
  refine .inl ⟨a, vs, rfl, SqL.of ha, fun c hc => ?_⟩
  have exx := Ex.new (o := .tup vs) hc
  have nd2 := (List.nodup_cons.mp nd).2
  refine k s _ _ _ q ⟨_, (h1.ex exx).push (F := G2) ?_ nd2 (fun b hb o _ => dj b (List.mem_cons_of_mem _ hb) o) fun b hb => ot b (List.mem_cons_of_mem _ hb)⟩
  unfold RepO
  exact ⟨c, vs, rfl, SqT.of upd_same, ro.frame exx.tk fun b hb => by
    obtain ⟨u, hu, _⟩ := hf.dom _ b (tt b (List.mem_cons_of_mem _ hb))
    rw [hu, exx b u hu]⟩
end
end DL
namespace DL
open PySem PySem.Spec PyProof.Rows L2
section
variable {X : Cx} {ss ts : List Slot} {Φ : List Slot → Slot → Prop} {Θ : List Slot → Bool → Prop} {e e1 e2 l a b c fe tg : Expr} {es elts : List Expr} {p p1 p2 p3 pos tpos kp kp2 : Pos} {j kk k1 : Nat} {x : Str} {Ψ : List Slot → List Slot → List El → Prop} {kvs : List (Str × D)}
theorem eFsTT {b : Str} (h : EV X e1 ss ts fun s1 r1 => s1K (fun t => (t.length ≤ 1000000 ∧ (t ++ b).length ≤ 1000000) ∧ EV X e2 s1 ts fun s r2 => s1K (fun u => (u.length ≤ 1000000 ∧ (t ++ b ++ u).length ≤ 1000000) ∧
      Φ s (.own (.str (t ++ b ++ u)))) r2) r1) : EV X (.JoinedStr [.FormattedValue e1 (-1) none p1, .Constant (.str b) kk p2, .FormattedValue e2 (-1) none p3] pos) ss ts Φ := fun m B σ tv H Q hm hh kc => by
  refine toE (pe_joined (.cons (pe_fmt pe_w) (.cons pe_str (.cons (pe_fmt pe_w) .nil)))) ?_
  refine h m B σ tv H _ hm hh fun s1 r1 x H1 hq hh1 => ?_
  obtain ⟨t, er, ⟨l0, l1⟩, h2⟩ := s1K_of hq
  have z := hh1.top (d := .str t) (by rw [er]; exact Slot.is_own)
  rw [rep_str] at z
  subst z
  have big : (1000000 : Nat) ≤ sizeLine := by decide
  refine .inl ⟨t, rfl, Nat.le_trans l0 (by decide), t, rfl, ?_, b, rfl, ?_, ?_⟩
  · rw [str_none]; exact Nat.le_trans l0 (by decide)
  · rw [str_none]; exact Nat.le_trans l1 (by decide)
  rw [str_none]
  refine h2 m B σ tv H1 _ hm (hh1.pop hm) fun s r2 y H2 hq hh2 => ?_
  obtain ⟨u, er2, ⟨l2, l3⟩, q⟩ := s1K_of hq
  have z := hh2.top (d := .str u) (by rw [er2]; exact Slot.is_own)
  rw [rep_str] at z
  subst z
  refine .inl ⟨u, rfl, Nat.le_trans l2 (by decide), u, rfl, ?_, ?_⟩
  · exact Nat.le_trans l3 (by decide)
  exact kc s _ _ H2 q ((hh2.pop hm).pushF (RepR.flatO (d := .str (t ++ b ++ u)) (by rw [rep_str]) rfl))
theorem eFsCT {a : Str} (ha : a.length ≤ 1000) (h : EV X e ss ts fun s r => s1K (fun t => t.length ≤ 1000000 ∧ (a ++ t).length ≤ 1000000 ∧ Φ s (.own (.str (a ++ t)))) r) : EV X (.JoinedStr [.Constant (.str a) k1 p1, .FormattedValue e (-1) none p2] pos) ss ts Φ := fun m B σ tv H Q hm hh kk => by
  refine toE (pe_joined (.cons pe_str (.cons (pe_fmt pe_w) .nil))) ?_
  refine ⟨a, rfl, ?_, ?_⟩
  · rw [str_none]; exact Nat.le_trans ha (by decide)
  refine h m B σ tv H _ hm hh fun s r x H1 hq hh1 => ?_
  obtain ⟨t, er, l0, l1, q⟩ := s1K_of hq
  have z := hh1.top (d := .str t) (by rw [er]; exact Slot.is_own)
  rw [rep_str] at z
  subst z
  refine .inl ⟨t, rfl, Nat.le_trans l0 (by decide), t, rfl, ?_, ?_⟩
  · rw [str_none]; exact Nat.le_trans l1 (by decide)
  · rw [str_none]
    exact kk s _ _ H1 q ((hh1.pop hm).pushF (RepR.flatO (d := .str (a ++ t)) (by rw [rep_str]) rfl))
theorem eFsTC {b : Str} (h : EV X e ss ts fun s r => s1K (fun t => t.length ≤ 1000000 ∧ (t ++ b).length ≤ 1000000 ∧ Φ s (.own (.str (t ++ b)))) r) : EV X (.JoinedStr [.FormattedValue e (-1) none p2, .Constant (.str b) k1 p1] pos) ss ts Φ := fun m B σ tv H Q hm hh kk => by
  refine toE (pe_joined (.cons (pe_fmt pe_w) (.cons pe_str .nil))) ?_
  refine h m B σ tv H _ hm hh fun s r x H1 hq hh1 => ?_
  obtain ⟨t, er, l0, l1, q⟩ := s1K_of hq
  have z := hh1.top (d := .str t) (by rw [er]; exact Slot.is_own)
  rw [rep_str] at z
  subst z
  refine .inl ⟨t, rfl, Nat.le_trans l0 (by decide), t, rfl, ?_, b, rfl, ?_, ?_⟩
  · rw [str_none]; exact Nat.le_trans l0 (by decide)
  · rw [str_none]; exact Nat.le_trans l1 (by decide)
  · rw [str_none]
    exact kk s _ _ H1 q ((hh1.pop hm).pushF (RepR.flatO (d := .str (t ++ b)) (by rw [rep_str]) rfl))
theorem eOrS {rest : List Expr} (h : EV X a ss ts fun s r => s1K (fun t => t.length ≤ 1000000 ∧ (t.length ≠ 0 → Φ s (.own (.str t))) ∧ (t.length = 0 → EV X (.BoolOp .Or (b :: rest) pos) s ts Φ)) r) : EV X (.BoolOp .Or (a :: b :: rest) pos) ss ts Φ := fun m B σ tv H Q hm hh k => by
  refine toE (pe_orT pe_w pe_w) ?_
  refine h m B σ tv H _ hm hh fun s r x H1 hq hh1 => ?_
  obtain ⟨t, er, l0, q1, q2⟩ := s1K_of hq
  have z := hh1.top (d := .str t) (by rw [er]; exact Slot.is_own)
  rw [rep_str] at z
  subst z
  refine ⟨((t.length : Int) != 0), ⟨Nat.le_trans l0 (by decide), rfl⟩, ?_⟩
  by_cases ht : t.length = 0
  · have e : ((t.length : Int) != 0) = false := by rw [ht]; rfl
    rw [e]
    exact iteF ((q2 ht) m B σ tv H1 Q hm (hh1.pop hm) k)
  · have e : ((t.length : Int) != 0) = true := by
      rw [bne_iff_ne]
      omega
    rw [e]
    exact iteT (k s _ _ H1 (q1 ht) ((hh1.pop hm).pushF (RepR.flatO (d := .str t) (by rw [rep_str]) rfl)))
theorem tNotInG (D : DicV X.K X.w X.mg x kvs) (h : EV X e ss ts fun s r => s1K (fun z => (∃ d, (z, d) ∈ kvs) ∧ Θ s false) r) (hg : Gl X x := by rfl) (hd : (x == ("__debug__" : Str)) = false := by decide) (hb : behindInMarks .NotIn (.Name x p) = false := by rfl) : TV X (.Compare e [.NotIn] [.Name x p] pos) ss ts Θ := by
  obtain ⟨a, es0, n0, ha, hd0, hk⟩ := D
  refine tv_cmp2 (op_notIn_kd hd0) hb (h.imp fun s r hq => ?_)
  obtain ⟨z, er, ⟨d, hz⟩, q⟩ := s1K_of hq
  refine ev_glo hg (d := .raw (.ref a)) ⟨_, .ref a, ha, rfl, fun H => by unfold RepO; exact ⟨rfl, rfl⟩⟩ ?_ hd
  refine ⟨.str z, .raw (.ref a), false, by rw [er]; exact Slot.is_own, Slot.is_own, fun H u w rx ry Q q => ?_, q⟩
  rw [rep_str] at rx
  unfold RepR at ry
  obtain ⟨v, kd, _⟩ := hk _ hz
  obtain ⟨es1, n1, u1, _, _, k3, _⟩ := kd
  exact ⟨z, some u1, rx, ry, k3, q⟩
end
end DL
set_option maxHeartbeats 2000000
namespace DL
open PySem PySem.Spec PyProof.Rows HotX L2 L2H
structure XTN (X : Cx) (B : Hp) (fx : List Nat) (σ : List (Option V)) (tv : List V) (ts : List Slot) (R : XD → List Slot → Prop) : Prop where
  tk : L2N.Takes X (WR X.K B fx σ tv ts R)
  ps : PassesOwn (model X.prog X.w) X.A X.env X.xe
theorem XTN.to {X : Cx} {B : Hp} {fx : List Nat} {σ σ' : List (Option V)} {tv : List V} {ts : List Slot} {R : XD → List Slot → Prop} (t : XTN X B fx σ tv ts R) (e : ∀ i, i ∈ fx → σ'[i]? = σ[i]?) : XTN X B fx σ' tv ts R :=
  ⟨t.tk.imp fun cls d σ2 H ⟨x, ss, h1, h2, h4, h5⟩ => ⟨x, ss, h1, h2, fun i hi => (h4 i hi).trans (e i hi), h5⟩, t.ps⟩
structure MakeN (P : Program) (w : World) (K : PySem.W.Frag) (mg : Str → Option Value) (base : Heap) (k : Nat) (x : Str) (C : Addr) (ps : List Str) (f : Addr) (fd : FuncData) (F : FX) : Prop where
  ok : FnOk P w K mg base (L2N.CX P w) k f fd ps (spX K F)
  mkr : Mk K C f
  nm : mg x = some (.ref C)
  bd : Binds K fd ps []
end DL
namespace DL
open PySem PySem.Spec PyProof.Rows L2
def fJ (F : D → List D → (D → D → Prop) → Prop) : FSp := fun ss q => ∃ (d0 a b : D) (k : D → D → Prop), ss = [.par a, .own d0, .par b] ∧ F d0 [a, b] k ∧ ∀ d' d, k d' d → q [.par a, .own d', .par b] d
abbrev spJ (K : PySem.W.Frag) (F : D → List D → (D → D → Prop) → Prop) : L2.Sp := spG K (fJ F)
structure DefJ (P : Program) (w : World) (K : PySem.W.Frag) (mg : Str → Option Value) (base : Heap) (CX : CXT) (k : Nat) (x : Str) (ps : List Str) (f : Addr) (fd : FuncData) (F : D → List D → (D → D → Prop) → Prop) : Prop where
  ok : FnOk P w K mg base CX k f fd ps (spJ K F)
  nm : mg x = some (.ref f)
  kp : PySem.W.keepIn K (.ref f) = true
  bd : Binds K fd ps []
end DL
namespace DL
open PySem PySem.Spec PySem.W PyProof.Rows L2 TL
theorem spl_par {S : List Nat} (hS : S ≠ []) : ∀ (l acc : List Nat), (par S acc l = none → spl S 0 acc l = [acc ++ l]) ∧ ∀ a b, par S acc l = some (a, b) → spl S 0 acc l = a :: spl S 0 [] b ∧ acc ++ l = a ++ (S ++ b)
  | [], acc => ⟨fun _ => (by rw [List.append_nil]; rfl), fun a b h => (nomatch h)⟩
  | c :: r, acc => by
    cases h : pre S (c :: r) with
    | true =>
      rw [par_hit h, spl_hit h, spl_pass]
      refine ⟨fun z => (nomatch z), fun a b e => ?_⟩
      injection e with e
      injection e with e1 e2
      subst e1 e2
      obtain ⟨s, S', rfl⟩ : ∃ s S', S = s :: S' := by
        cases S with
        | nil => exact absurd rfl hS
        | cons s S' => exact ⟨s, S', rfl⟩
      refine ⟨rfl, ?_⟩
      have e : (c :: r).take (s :: S').length = s :: S' := eq_of_beq h
      rw [← e, List.length_take]
      conv => lhs; rw [← List.take_append_drop (s :: S').length (c :: r)]
      by_cases hl : (s :: S').length ≤ (c :: r).length
      · rw [Nat.min_eq_left hl]
      · have := congrArg List.length e
        rw [List.length_take] at this
        omega
    | false =>
      rw [par_miss h, spl_miss h]
      obtain ⟨h1, h2⟩ := spl_par hS r (acc ++ [c])
      refine ⟨fun z => ?_, fun a b z => ?_⟩
      · rw [h1 z, List.append_assoc]
        rfl
      · obtain ⟨h3, h4⟩ := h2 a b z
        refine ⟨h3, ?_⟩
        rw [← h4, List.append_assoc]
        rfl
theorem split_two (x : Str) {y : Str} (hy : tl y ≠ []) (hk : y.cps.all (· < 256) = true) :
    (∃ a b, Txt.partition x y = (a, y, b) ∧ Txt.split x y = a :: Txt.split b y ∧ tl x = tl a ++ (tl y ++ tl b)) ∨ (Txt.partition x y = (x, Str.empty, Str.empty) ∧ Txt.split x y = [x]) := by
  have z := partition_par x y hy
  obtain ⟨h1, h2⟩ := spl_par hy (tl x) []
  cases e : par (tl y) [] (tl x) with
  | none =>
    rw [e] at z
    refine .inr ⟨z, map_tl_inj ?_⟩
    rw [split_spl _ _ hy (kind_ok hk), h1 e]
    rfl
  | some p =>
    obtain ⟨a, b⟩ := p
    rw [e] at z
    obtain ⟨h3, h4⟩ := h2 a b e
    refine .inl ⟨_, _, z, map_tl_inj ?_, h4⟩
    rw [split_spl _ _ hy (kind_ok hk), h3, List.map_cons, split_spl _ _ hy (kind_ok hk)]
theorem sp_ok : tl (" " : Str) ≠ [] ∧ (" " : Str).cps.all (· < 256) = true := by decide +kernel
theorem Frac.nm {t : Str} {x : Rat} (h : Frac t x) : Nm x := by
  have lt : ∀ {a : Str}, okC a → cntV a < 10 ^ 40 := fun {a} ok => by
    have b : ∀ (l : List Nat) (a k : Nat), NumText.AllDigits l → a < 10 ^ k → l.foldl (fun acc c => acc * 10 + (c - 48)) a < 10 ^ (k + l.length) := by
      intro l
      induction l with
      | nil => intro a k _ h; exact h
      | cons c l ih =>
        intro a k hd ha
        rw [List.foldl_cons, List.length_cons, show k + (l.length + 1) = (k + 1) + l.length by omega]
        refine ih _ (k + 1) (fun d hd2 => hd d (List.mem_cons_of_mem _ hd2)) ?_
        have c9 := hd c List.mem_cons_self
        rw [Nat.pow_succ]
        omega
    have z := b a.cps.toList 0 0 ok.2.2 (by decide)
    have l := ok.1.2
    rw [len_tl] at l
    exact Nat.lt_of_lt_of_le z (Nat.pow_le_pow_right (by decide) (by have : a.cps.toList.length ≤ 40 := l; omega))
  have key : ∀ (n d : Nat) (p : Int), p.natAbs = n → n < 10 ^ 40 → 1 ≤ d → d < 10 ^ 40 → Nat.gcd n d = 1 → Nm (Rat.divInt p d) := fun n d p hp h1 h2 h3 hg => by
    have pg : Int.gcd p (d : Int) = 1 := by
      unfold Int.gcd
      rw [hp, Int.natAbs_natCast, hg]
    have e := fq_is (p := p) (q := (d : Int)) (a := p) (b := (d : Int)) (by omega) (by omega) pg rfl
    unfold fq at e
    injection e with e
    injection e with e1 e2
    injection e2 with e2 _
    injection e1 with e1
    injection e2 with e2
    have e2 : (Rat.divInt p (d : Int)).den = d := Int.ofNat_inj.mp e2
    exact ⟨by rw [e1, hp]; exact h1, by rw [e2]; exact h3⟩
  have sg : ∀ (b : Bool) (n : Nat), (if b = true then -(n : Int) else (n : Int)).natAbs = n := fun b n => by
    cases b <;> simp
  cases h with
  | whole hp ok e h0 => exact key _ 1 _ (sg _ _) (by rw [e]; exact lt ok) (by decide) (by decide +kernel) (Nat.gcd_one_right _)
  | part hp ok ok2 e e2 hd h0 hg => exact key _ _ _ (sg _ _) (by rw [e]; exact lt ok) (by omega) (by rw [e2]; exact lt ok2) hg
end DL
namespace DL
open PySem PySem.Spec PyProof.Rows L2
section
variable {X : Cx} {B : Hp} {ss ts : List Slot} {Φ : List Slot → Slot → Prop} {Θ : List Slot → Bool → Prop} {R : XD → List Slot → Prop} {e a b fe : Expr} {es : List Expr} {pos p px apos : Pos} {x : Str} {k j : Nat} {ps : List Str} {f : Addr} {fd : FuncData}
structure FnX (P : Program) (w : World) (K : PySem.W.Frag) (mg : Str → Option Value) (base : Heap) (k : Nat) (ps : List Str) (f : Addr) (fd : FuncData) (F : FX) : Prop where
  ok : FnOk P w K mg base (L2.CX P w) k f fd ps (spX K F)
  kp : PySem.W.keepIn K (.ref f) = true
  bd : Binds K fd ps []
theorem FnX.plain {P : Program} {w : World} {K : PySem.W.Frag} {mg : Str → Option Value} {base : Heap} {k : Nat} {ps : List Str} {f : Addr} {fd : FuncData} {F : FX} (C : FnX P w K mg base k ps f fd F) : FnV P w K mg base k ps f fd fun ds k => F ds k fun _ => False := ⟨fnOk_plain C.ok, C.kp, C.bd⟩
end
section
variable {X : Cx} {ss ts : List Slot} {Φ : List Slot → Slot → Prop} {Θ : List Slot → Bool → Prop} {e a b : Expr} {pos p : Pos} {x : Str} {j : Nat}
def DicN (K : PySem.W.Frag) (w : World) (mg : Str → Option Value) (x : Str) (kvs : List (Str × D)) : Prop := ∃ a es n, mg x = some (.ref a) ∧ KDict K w a es n ∧ (∀ q, q ∈ kvs → ∃ v, KDct K w a q.1 v ∧ ∀ H, RepO K H q.2 v []) ∧ ∀ z, (∀ q, q ∈ kvs → q.1 ≠ z) → PySem.W.nsIn K a z = some none
theorem DicN.v {K : PySem.W.Frag} {w : World} {mg : Str → Option Value} {x : Str} {kvs : List (Str × D)} (h : DicN K w mg x kvs) : DicV K w mg x kvs := let ⟨a, es, n, h1, h2, h3, _⟩ := h; ⟨a, es, n, h1, h2, h3⟩
variable {kvs : List (Str × D)}
theorem tInN (D : DicN X.K X.w X.mg x kvs) (h : EV X e ss ts fun s r => s1K (fun z => ((∃ d, (z, d) ∈ kvs) → Θ s true) ∧ ((∀ q, q ∈ kvs → q.1 ≠ z) → Θ s false)) r) (hg : Gl X x := by rfl) (hd : (x == ("__debug__" : Str)) = false := by decide) (hb : behindInMarks .In (.Name x p) = false := by rfl) : TV X (.Compare e [.In] [.Name x p] pos) ss ts Θ := by
  obtain ⟨a, es0, n0, ha, hd0, hk, hn⟩ := D
  refine tv_cmp2 (op_in_kd hd0) hb (h.imp fun s r hq => ?_)
  obtain ⟨z, er, q1, q2⟩ := s1K_of hq
  refine ev_glo hg (d := .raw (.ref a)) ⟨_, .ref a, ha, rfl, fun H => by unfold RepO; exact ⟨rfl, rfl⟩⟩ ?_ hd
  by_cases hz : ∃ q, q ∈ kvs ∧ q.1 = z
  · obtain ⟨q, hq1, rfl⟩ := hz
    refine ⟨.str q.1, .raw (.ref a), true, by rw [er]; exact Slot.is_own, Slot.is_own, fun H u w rx ry Q qq => ?_, q1 ⟨q.2, hq1⟩⟩
    rw [rep_str] at rx
    unfold RepR at ry
    obtain ⟨v, kd, _⟩ := hk _ hq1
    obtain ⟨es1, n1, u1, _, _, k3, _⟩ := kd
    exact ⟨q.1, some u1, rx, ry, k3, qq⟩
  · have hz2 : ∀ q, q ∈ kvs → q.1 ≠ z := fun q hq1 e => hz ⟨q, hq1, e⟩
    refine ⟨.str z, .raw (.ref a), false, by rw [er]; exact Slot.is_own, Slot.is_own, fun H u w rx ry Q qq => ?_, q2 hz2⟩
    rw [rep_str] at rx
    unfold RepR at ry
    exact ⟨z, none, rx, ry, hn z hz2, qq⟩
end
theorem nsIn_no {K : PySem.W.Frag} {w : World} {a : Addr} {ks : List Str} (h : He.dicW K a = some (He.keysIn w.params ks)) {z : Str} (hz : z ∉ ks) : PySem.W.nsIn K a z = some none := by
  unfold He.dicW at h
  cases q : K.lookup a with
  | none => rw [q] at h; cases h
  | some o =>
    obtain ⟨oc, od, dt, osl⟩ := o
    rw [q] at h
    split at h
    · rename_i c es n sl e
      cases e
      split at h
      · have h2 := Option.some.inj h
        have key : ∀ e, e ∈ es.toList → ∃ k t, e.key = .str k t ∧ k ∈ ks := fun e he => by
          have : He.keyOf e ∈ He.keysIn w.params ks := by rw [← h2]; exact List.mem_map.mpr ⟨e, he, rfl⟩
          unfold He.keysIn at this
          obtain ⟨k, hk, e2⟩ := List.mem_map.mp this
          unfold He.keyOf at e2
          split at e2
          · rename_i x t ex
            have e3 := Option.some.inj e2
            injection e3 with e4 _
            exact ⟨x, t, ex, by rw [← e4]; exact hk⟩
          · cases e2
        unfold PySem.W.nsIn
        rw [q]
        have f1 : es.toList.find? (·.key.isStr z) = none := List.find?_eq_none.mpr fun e he => by
          obtain ⟨k, t, e1, hk⟩ := key e he
          rw [e1]
          intro hs
          have : k = z := by
            have hs2 : (Value.str k t).isStr z = true := hs
            simpa [PySem.Value.isStr] using hs2
          exact hz (this ▸ hk)
        have f2 : es.toList.any (·.refKey) = false := List.any_eq_false.mpr fun e he => by
          obtain ⟨k, t, e1, hk⟩ := key e he
          simp [PySem.DictEntry.refKey, e1]
        simp only [f1, f2]
        rfl
      · cases h
    · cases h
theorem SaysV.dicN {eb : PySem.W.Frag → Bool} {tb : List (Str × List He.Dv)} {fa : List He.Fa} {fn : List He.DefD} {ds : List TabD} {w : World} {K : PySem.W.Frag} {h : Heap} {mg : Str → Option Value} (X : K.In h) (G : h.Ns mainGlobals mg) (c : SaysV eb tb fa fn ds w K) (i : Nat) {t : TabD} (e : ds[i]? = some t := by rfl) (ok : (t.2.all fun q => dvOk q.2) = true := by rfl) : DicN K w mg t.1 (t.2.map fun q => (q.1, dvD K q.2)) := by
  have c1 : obsE (fun K => eb K && dicB ds K) tb fa fn K = (true, He.valD fn) := congrArg (fun z : AlV => z.1) c
  have c2 : ds.map (fun t => He.dicW K (He.ga K t.1)) = ds.map fun t => some (He.keysIn w.params (t.2.map (·.1))) := congrArg (fun z : AlV => z.2) c
  obtain ⟨h1, _⟩ := SaysE.ex (eb := fun K => eb K && dicB ds K) c1
  obtain ⟨g1, g2⟩ := He.ba (List.all_eq_true.mp (He.ba h1).2 t (List.mem_of_getElem? e))
  have e2 : (ds.map fun t => He.dicW K (He.ga K t.1))[i]? = (ds.map fun t => some (He.keysIn w.params (t.2.map (·.1))))[i]? := by rw [c2]
  rw [List.getElem?_map, List.getElem?_map, e] at e2
  have e3 : He.dicW K (He.ga K t.1) = some (He.keysIn w.params (t.2.map (·.1))) := Option.some.inj e2
  obtain ⟨a, es, n, m1, kd, hk⟩ := SaysV.dic X G c i e ok
  have ea : He.ga K t.1 = a := by
    have z := He.glo_ok X G g1
    rw [m1] at z
    exact (Value.ref.inj (Option.some.inj z)).symm
  rw [ea] at e3
  refine ⟨a, es, n, m1, kd, hk, fun z hz => nsIn_no e3 fun hm => ?_⟩
  obtain ⟨q, hq, rfl⟩ := List.mem_map.mp hm
  exact hz (q.1, dvD K q.2) (List.mem_map.mpr ⟨q, hq, rfl⟩) rfl
end DL
namespace DL
open PySem PySem.Spec PyProof.Rows L2
def rDNot : R2 := fun x y H Q => ∃ a o, y = .ref a ∧ DGet H a x o ∧ Q (.bl (!o.isSome)) H
theorem op_dNot {X : Cx} (hu : X.A.units + 1 < cLine) : OpR X (compareOp .NotIn) rDNot := by
  intro pins s σ H x y v u Q I rx ry h
  obtain ⟨a, o, rfl, g, q⟩ := h
  obtain rfl : u = Value.ref a := ry
  exact d_notIn hu I g rx fun s' I' => ⟨.bl (!o.isSome), H, I', rfl, q⟩
end DL
namespace DL
open PySem PySem.Spec PySem.W PyProof.Rows L2 TL
inductive Syg where
  | ans (l : List Rat)
  | wd (w : Str)
def syD : Syg → D
  | .ans l => .tup [.str "answered", rowD l]
  | .wd w => .tup [.str w]
theorem inV_mem {u : Str} : ∀ {l : List Str}, inV (V.str u) (l.map V.str) = decide (u ∈ l)
  | [] => rfl
  | x :: l => by
    have ih := inV_mem (u := u) (l := l)
    unfold inV at ih ⊢
    rw [List.map_cons, List.any_cons, ih]
    show ((x == u) || _) = _
    by_cases e : x = u
    · subst e
      simp
    · have e2 : ¬ u = x := fun z => e z.symm
      have : (x == u) = false := beq_eq_false_iff_ne.mpr e
      rw [this, Bool.false_or]
      simp [List.mem_cons, e2]
end DL
namespace DL
open PySem PySem.Spec PyProof.Rows L2
def Fst (p : Nat → Prop) (c m : Nat) (l : List Nat) : Prop := (l = [] ∧ ∀ j, c ≤ j → j < c + m → ¬ p j) ∨ ∃ a r, l = a :: r ∧ c ≤ a ∧ a < c + m ∧ p a ∧ ∀ j, c ≤ j → j < a → ¬ p j
theorem Fst.nil {p : Nat → Prop} {c : Nat} : Fst p c 0 [] := .inl ⟨rfl, fun j a b => absurd b (by omega)⟩
theorem Fst.no {p : Nat → Prop} {c m : Nat} {l : List Nat} (h : Fst p c m l) (k : ¬ p (c + m)) : Fst p c (m + 1) l := by
  rcases h with ⟨rfl, h⟩ | ⟨a, r, rfl, h1, h2, h3, h4⟩
  · refine .inl ⟨rfl, fun j a b => ?_⟩
    by_cases e : j = c + m
    · rw [e]; exact k
    · exact h j a (by omega)
  · exact .inr ⟨a, r, rfl, h1, by omega, h3, h4⟩
end DL
namespace DL
open PySem PySem.Spec PyProof.Rows L2
inductive Has (d : D) (v : V) : D → Prop
  | here : Has d v (.nam d v)
  | nam {e : D} {w : V} : Has d v e → Has d v (.nam e w)
  | tup {l : List D} {x : D} : x ∈ l → Has d v x → Has d v (.tup l)
  | lst {l : List D} {x : D} : x ∈ l → Has d v x → Has d v (.lst l)
  | ins {C : Addr} {ns : List Str} {l : List D} {x : D} : x ∈ l → Has d v x → Has d v (.ins C ns l)
  | dct {ks : List Str} {l : List D} {x : D} : x ∈ l → Has d v x → Has d v (.dct ks l)
section
variable {K : PySem.W.Frag} {H : Hp} {d : D} {v : V}
theorem reps_mem : ∀ {l : List D} {vs : List V} {x : D}, RepRs K H l vs → x ∈ l → ∃ w, RepR K H x w
  | e :: l, vs, x, h, hx => by
    unfold RepRs at h
    obtain ⟨w, ws, rfl, h1, h2⟩ := h
    rcases List.mem_cons.mp hx with rfl | hx
    · exact ⟨w, h1⟩
    · exact reps_mem h2 hx
theorem repos_mem : ∀ {l : List D} {vs : List V} {F : List Addr} {x : D}, RepOs K H l vs F → F.Nodup → x ∈ l → ∃ w F1, RepO K H x w F1 ∧ F1.Nodup ∧ ∀ a, a ∈ F1 → a ∈ F
  | e :: l, vs, F, x, h, nd, hx => by
    unfold RepOs at h
    obtain ⟨w, ws, F1, F2, rfl, rfl, h1, h2⟩ := h
    obtain ⟨n1, n2, _⟩ := List.nodup_append.mp nd
    rcases List.mem_cons.mp hx with rfl | hx
    · exact ⟨w, F1, h1, n1, fun a ha => List.mem_append.mpr (.inl ha)⟩
    · obtain ⟨w', F', r, n, m⟩ := repos_mem h2 n2 hx
      exact ⟨w', F', r, n, fun a ha => List.mem_append.mpr (.inr (m a ha))⟩
theorem Has.rep {D0 : D} (h : Has d v D0) : ∀ {w : V}, RepR K H D0 w → RepR K H d v := by
  induction h with
  | here => intro w r; unfold RepR at r; obtain ⟨rfl, r⟩ := r; exact r
  | nam _ ih => intro w r; unfold RepR at r; exact ih r.2
  | tup hx _ ih => intro w r; unfold RepR at r; obtain ⟨_, _, _, _, r⟩ := r; obtain ⟨_, r⟩ := reps_mem r hx; exact ih r
  | lst hx _ ih => intro w r; unfold RepR at r; obtain ⟨_, _, _, _, r⟩ := r; obtain ⟨_, r⟩ := reps_mem r hx; exact ih r
  | ins hx _ ih => intro w r; unfold RepR at r; obtain ⟨_, _, _, _, _, _, r⟩ := r; obtain ⟨_, r⟩ := reps_mem r hx; exact ih r
  | dct hx _ ih => intro w r; unfold RepR at r; obtain ⟨_, _, _, _, _, r⟩ := r; obtain ⟨_, r⟩ := reps_mem r hx; exact ih r
theorem Has.own {D0 : D} (h : Has d v D0) : ∀ {w : V} {F : List Addr}, RepO K H D0 w F → F.Nodup → ∃ F1, RepO K H d v F1 ∧ F1.Nodup ∧ ∀ a, a ∈ F1 → a ∈ F := by
  induction h with
  | here => intro w F r nd; unfold RepO at r; obtain ⟨rfl, r⟩ := r; exact ⟨F, r, nd, fun _ z => z⟩
  | nam _ ih => intro w F r nd; unfold RepO at r; exact ih r.2 nd
  | tup hx _ ih =>
    intro w F r nd
    unfold RepO at r
    obtain ⟨_, _, _, _, r⟩ := r
    obtain ⟨_, F1, r, n1, m1⟩ := repos_mem r nd hx
    obtain ⟨F2, r, n2, m2⟩ := ih r n1
    exact ⟨F2, r, n2, fun a ha => m1 a (m2 a ha)⟩
  | lst hx _ ih =>
    intro w F r nd
    unfold RepO at r
    obtain ⟨_, _, G, _, _, rfl, r⟩ := r
    obtain ⟨_, F1, r, n1, m1⟩ := repos_mem r (List.nodup_cons.mp nd).2 hx
    obtain ⟨F2, r, n2, m2⟩ := ih r n1
    exact ⟨F2, r, n2, fun a ha => List.mem_cons_of_mem _ (m1 a (m2 a ha))⟩
  | ins hx _ ih =>
    intro w F r nd
    unfold RepO at r
    obtain ⟨_, _, _, G, _, _, _, _, rfl, r⟩ := r
    obtain ⟨_, F1, r, n1, m1⟩ := repos_mem r (List.nodup_cons.mp (List.nodup_cons.mp nd).2).2 hx
    obtain ⟨F2, r, n2, m2⟩ := ih r n1
    exact ⟨F2, r, n2, fun a ha => List.mem_cons_of_mem _ (List.mem_cons_of_mem _ (m1 a (m2 a ha)))⟩
  | dct hx _ ih =>
    intro w F r nd
    unfold RepO at r
    obtain ⟨_, _, G, _, _, _, rfl, r⟩ := r
    obtain ⟨_, F1, r, n1, m1⟩ := repos_mem r (List.nodup_cons.mp nd).2 hx
    obtain ⟨F2, r, n2, m2⟩ := ih r n1
    exact ⟨F2, r, n2, fun a ha => List.mem_cons_of_mem _ (m1 a (m2 a ha))⟩
def nams : List D → List V → List D
  | d :: l, v :: vs => .nam d v :: nams l vs
  | _, _ => []
theorem nams_repo : ∀ {l : List D} {vs : List V} {F : List Addr}, RepOs K H l vs F → RepOs K H (nams l vs) vs F
  | [], vs, F, h => by
    unfold RepOs at h
    obtain ⟨rfl, rfl⟩ := h
    unfold nams RepOs
    exact ⟨rfl, rfl⟩
  | d :: l, vs, F, h => by
    unfold RepOs at h
    obtain ⟨w, ws, F1, F2, rfl, rfl, h1, h2⟩ := h
    unfold nams RepOs
    exact ⟨w, ws, F1, F2, rfl, rfl, by unfold RepO; exact ⟨rfl, h1⟩, nams_repo h2⟩
theorem nams_back : ∀ {l : List D} {us vs : List V} {F : List Addr}, us.length = l.length → RepOs K H (nams l us) vs F → RepOs K H l vs F
  | [], [], vs, F, _, h => by unfold nams at h; exact h
  | d :: l, u :: us, vs, F, e, h => by
    unfold nams RepOs at h
    obtain ⟨w, ws, F1, F2, rfl, rfl, h1, h2⟩ := h
    unfold RepO at h1
    unfold RepOs
    exact ⟨w, ws, F1, F2, rfl, rfl, h1.2, nams_back (by simpa using e) h2⟩
end
section
variable {X : Cx} {fx : List Nat} {sts : List Stmt} {ss ts : List Slot} {E : DE} {Φ : List Slot → Slot → Prop} {e : Expr}
theorem sv_ghost (i : Nat) {D0 : D} (P : D → Prop) (hs : ss[i]? = some (.own D0)) (ht : noView (.v i) ts = true) (g : ∀ H w F, RepO X.K H D0 w F → F.Nodup → ∃ D1, P D1 ∧ RepO X.K H D1 w F)
    (q : ∀ D1, P D1 → SV X fx sts ((ss.map (kill (.v i))).set i (.own D1)) ts E) : SV X fx sts ss ts E := fun B σ tv H D ⟨fp, h⟩ k => by
  obtain ⟨w, e1, e2⟩ := h.var i _ hs
  obtain ⟨D1, p, r⟩ := g H w _ e2 (h.nod _)
  exact q D1 p B σ tv H D ⟨_, h.change (v := w) (F' := fp (.v i)) (d' := D1) e1 (getElem?_lt hs) (fun _ _ q _ => q) (fun a o _ e => e) r (h.nod _) (fun a ha => .inl ha) ht⟩ k
theorem sv_home (i j : Nat) {D0 E0 E1 : D} (hij : i ≠ j) (hi : ss[i]? = some (.own D0)) (hj : ss[j]? = some (.own E0)) (hti : noView (.v i) ts = true) (htj : noView (.v j) ts = true)
    (g : ∀ H w F x G, RepO X.K H D0 w F → RepO X.K H E0 x G → F.Nodup → G.Nodup → (∀ a, a ∈ F → a ∉ G) → ∃ G', RepO X.K H E1 x G' ∧ G'.Nodup ∧ ∀ a, a ∈ G' → a ∈ G ∨ a ∈ F)
    (q : SV X fx sts ((((ss.map (kill (.v i))).set i .no).map (kill (.v j))).set j (.own E1)) ts E) : SV X fx sts ss ts E := fun B σ tv H D ⟨fp, h⟩ k => by
  obtain ⟨v, e1, h1⟩ := h.move hi hti
  obtain ⟨fp2, F, h2, s2, r2, n2, o2, b2, _⟩ := h1.take Low.self
  have hj2 : ((ss.map (kill (.v i))).set i .no)[j]? = some (.own E0) := by
    rw [List.getElem?_set_ne hij, List.getElem?_map, hj]
    rfl
  obtain ⟨x, e3, r3⟩ := h2.var j _ hj2
  obtain ⟨G', r, nd, m⟩ := g H v F x _ r2 r3 n2 (h2.nod _) fun a ha => o2 a ha _
  exact q B σ tv H D ⟨_, h2.change (v := x) (F' := G') (d' := E1) e3 (getElem?_lt hj2) (fun _ _ q _ => q) (fun a o _ e => e) r nd (fun a ha => (m a ha).elim .inl fun z => .inr ⟨o2 a z, b2 a z⟩) htj⟩ k
theorem eRawN (h : EV X e ss ts fun s r => ∃ d v, r.is (.nam d v) ∧ Φ s (.own (.raw v))) : EV X e ss ts Φ := fun m B σ tv H Q hm hh kk => by
  refine h m B σ tv H _ hm hh fun s r x H1 ⟨d, v, e1, q⟩ hh1 => ?_
  have z := hh1.top e1
  unfold RepR at z
  obtain ⟨rfl, _⟩ := z
  exact kk s _ _ H1 q ((hh1.pop hm).pushF (by unfold RepO; exact ⟨rfl, rfl⟩))
theorem eSeeN (g : Nat) (h : EV X e ss ts fun s r => ∃ d v D0, r = .own (.raw v) ∧ Has d v D0 ∧ ((s[g]? = some (.own D0) ∧ Φ s (.view (.v g) d)) ∨ (s[g]? = some (.par D0) ∧ Φ s (.par d)))) : EV X e ss ts Φ := fun m B σ tv H Q hm hh kk => by
  refine h m B σ tv H _ hm hh fun s r x H1 ⟨d, v, D0, er, hd, h2⟩ hh1 => ?_
  subst er
  have z := hh1.top (d := .raw v) Slot.is_own
  rw [rep_raw] at z
  subst z
  have hp := hh1.pop hm
  rcases h2 with ⟨e1, q⟩ | ⟨e1, q⟩
  · refine kk s _ x H1 q (hp.pushV (fun _ z => nomatch z) fun fp hf => ⟨.v g, ?_⟩)
    obtain ⟨w, _, r⟩ := hf.var g _ e1
    refine ⟨by unfold ownOk; trivial, x, rfl, ?_⟩
    exact hd.rep (r.toR fun a ha => .inl ha)
  · refine kk s _ x H1 q (hp.pushV (fun _ z => nomatch z) fun fp hf => ⟨.v g, ?_⟩)
    obtain ⟨w, _, r⟩ := hf.var g _ e1
    exact ⟨x, rfl, hd.rep r⟩
end
end DL
namespace DL
open PySem PySem.Spec PyProof.Rows L2
def fTk (F : D → D → D → (D → D → Prop) → Prop) : FSp := fun ss q => ∃ (d0 d1 d2 : D) (k : D → D → Prop), ss = [.own d0, .own d1, .par d2] ∧ F d0 d1 d2 k ∧ ∀ d' d, k d' d → q [.own d', .no, .par d2] d
abbrev spTk (K : PySem.W.Frag) (F : D → D → D → (D → D → Prop) → Prop) : L2.Sp := spG K (fTk F)
structure DefTk (P : Program) (w : World) (K : PySem.W.Frag) (mg : Str → Option Value) (base : Heap) (CX : CXT) (k : Nat) (x : Str) (ps : List Str) (f : Addr) (fd : FuncData) (F : D → D → D → (D → D → Prop) → Prop) : Prop where
  ok : FnOk P w K mg base CX k f fd ps (spTk K F)
  nm : mg x = some (.ref f)
  kp : PySem.W.keepIn K (.ref f) = true
  bd : Binds K fd ps []
end DL
namespace DL
open PySem PySem.Spec PyProof.Rows L2
def fT3 (F : D → D → D → (D → D → Prop) → Prop) : FSp := fun ss q => ∃ (d0 d1 d2 : D) (k : D → D → Prop), ss = [.own d0, .par d1, .own d2] ∧ F d0 d1 d2 k ∧ ∀ d' d, k d' d → q [.own d', .par d1, .no] d
abbrev spT3 (K : PySem.W.Frag) (F : D → D → D → (D → D → Prop) → Prop) : L2.Sp := spG K (fT3 F)
section
variable {P : Program} {w : World} {K : PySem.W.Frag} {mg : Str → Option Value} {base : Heap}
theorem fun_okT3 {CX : CXT} {x qual : Str} {st : Stmt} {dvs : List V} {f : Addr} {fd : FuncData} {N ps : List Str} {k : Nat} {F : D → D → D → (D → D → Prop) → Prop} (Fn : FunD K x qual (defArgs st) (defBody st) (defScope st) dvs [] f fd) (S : FnScope N ps (defScope st))
    (len : ps.length = 3)
    (hbody : ∀ (cdv : Value) (A : Around) (outer : List Env) (s : Shared) (H : Hp) (E : XK), Room k (A.deeper (envOfC qual (defScope st) s.heap.objs.size f cdv)) → ∀ d0 d1 d2 (q : D → D → Prop), F d0 d1 d2 q →
      SV (cxOf CX P w K mg base N qual (defScope st) f cdv A outer s H E).nox [0, 2] (defBody st) (.own d0 :: .par d1 :: .own d2 :: List.replicate (N.length - ps.length) .no) []
        { nx := fun s => ∃ d', s[0]? = some (.own d') ∧ s[2]? = some .no ∧ q d' .non, rt := fun s r => ∃ d' d, s[0]? = some (.own d') ∧ s[2]? = some .no ∧ r = .own d ∧ q d' d }) :
    FnOk P w K mg base CX (k + 1) f fd ps (spT3 K F) := by
  refine fun_ok [0, 2] Fn S (fun ss q ⟨d0, d1, d2, k, e, h, _⟩ => ?_) fun cdv A outer s H E hr ss q ⟨d0, d1, d2, k, e, h, kq⟩ => ?_
  · rw [e]
    exact len.symm
  · subst e
    have hpar : ∀ i, i < ps.length → i ∉ ([0, 2] : List Nat) → ∃ d, ([.own d0, .par d1, .own d2] : List Slot)[i]? = some (.par d) := fun i hi n => by
      rw [len] at hi
      match i, hi, n with
      | 0, _, n => exact absurd List.mem_cons_self n
      | 1, _, _ => exact ⟨_, rfl⟩
      | 2, _, n => exact absurd (List.mem_cons_of_mem _ List.mem_cons_self) n
    have same : ∀ (s : List Slot) d', s[0]? = some (.own d') → s[2]? = some .no → ((([.own d0, .par d1, .own d2] : List Slot)).zipIdx.map fun p => if p.2 ∈ ([0, 2] : List Nat) then (s[p.2]?).getD .no else p.1) = [.own d', .par d1, .no] := fun s d' e e1 => by
      show [(s[0]?).getD .no, _, (s[2]?).getD .no] = _
      rw [e, e1]
      rfl
    intro B σ tv H0 D hh kk
    refine hbody cdv A outer s H E hr d0 d1 d2 _ h B σ tv H0 D hh ⟨fun s2 σ2 H2 ⟨d', e, e1, q2⟩ h2 z => kk.nx s2 σ2 H2 ⟨hpar, by rw [same _ _ e e1]; exact kq _ _ q2⟩ h2 z, fun s2 r σ2 v H2 ⟨d', d, e, e1, er, q2⟩ h2 z => kk.rt s2 r σ2 v H2 ⟨hpar, d, er, by rw [same _ _ e e1]; exact kq _ _ q2⟩ h2 z, fun _ _ _ z => z.elim, fun _ _ _ z => z.elim⟩
end
section
variable {K : PySem.W.Frag} {m : Nat → Prop} {B H H' : Hp} {σ : List (Option V)} {tv : List V} {v x y z : V} {fp : Own → List Addr} {F1 : List Addr} {d d0 d1 d2 d' : D} {i : Nat} {ss ts : List Slot}
theorem HeldF.lendT3 (h : HeldF K m B H fp σ ss tv ts) (hx : σ[i]? = some (some x)) (hs : ss[i]? = some (.own d0)) (r1 : RepO K H d1 y F1) (nF : F1.Nodup) (dj : ∀ a ∈ F1, ∀ o, a ∉ fp o) (r2 : RepR K H d2 z) (fl : d2.flat = true) :
    Held K (fun k => k < 0) (hless H (fp (.v i) ++ F1)) H [some x, some z, some y] [.own d0, .par d2, .own d1] [] [] := by
  have us : ∀ a ∈ fp (.v i) ++ F1, ∃ u, H a = some u ∧ ¬ stab u := fun a ha => by
    rcases List.mem_append.mp ha with ha | ha
    · exact h.dom _ a ha
    · exact r1.dom a ha
  have tk : TK H (hless H (fp (.v i) ++ F1)) := fun a o q s => by
    rw [hless_at]
    · exact q
    · intro z
      obtain ⟨u, e1, n⟩ := us a z
      rw [q] at e1
      cases e1
      exact n s
  have hne : (Own.v 2) ≠ Own.v 0 := fun z => by cases z
  refine ⟨fun o => if o = .v 0 then fp (.v i) else if o = .v 2 then F1 else [], hless_ex, rfl, rfl, Low.self, fun j s e => ?_, (fun k s e => by simp at e), fun o o' a q1 q2 => ?_, fun o => ?_, fun o a q => ?_, fun o a q => ?_⟩
  · match j, e with
    | 0, e =>
      cases e
      obtain ⟨w, e1, e2⟩ := h.var i _ hs
      rw [hx] at e1
      have e3 : x = w := Option.some.inj e1
      subst e3
      refine ⟨x, rfl, ?_⟩
      show RepO K H d0 x (if Own.v 0 = Own.v 0 then fp (.v i) else _)
      rw [if_pos rfl]
      exact e2
    | 2, e =>
      cases e
      refine ⟨y, rfl, ?_⟩
      show RepO K H d1 y (if Own.v 2 = Own.v 0 then fp (.v i) else if Own.v 2 = Own.v 2 then F1 else [])
      rw [if_neg hne, if_pos rfl]
      exact r1
    | 1, e =>
      cases e
      exact ⟨z, rfl, ((r2.flatO fl).frame tk fun _ q => nomatch q).rep⟩
    | j + 3, e => simp at e
  · revert q1 q2
    show a ∈ (if o = Own.v 0 then fp (.v i) else if o = Own.v 2 then F1 else []) → a ∈ (if o' = Own.v 0 then fp (.v i) else if o' = Own.v 2 then F1 else []) → o = o'
    by_cases h1 : o = .v 0
    · by_cases h2 : o' = .v 0
      · intro _ _; rw [h1, h2]
      · rw [if_pos h1, if_neg h2]
        by_cases h3 : o' = .v 2
        · rw [if_pos h3]; exact fun q1 q2 => absurd q1 (dj a q2 _)
        · rw [if_neg h3]; exact fun _ z => nomatch z
    · rw [if_neg h1]
      by_cases h3 : o = .v 2
      · rw [if_pos h3]
        by_cases h2 : o' = .v 0
        · rw [if_pos h2]; exact fun q1 q2 => absurd q2 (dj a q1 _)
        · rw [if_neg h2]
          by_cases h4 : o' = .v 2
          · intro _ _; rw [h3, h4]
          · rw [if_neg h4]; exact fun _ z => nomatch z
      · rw [if_neg h3]; exact fun z => nomatch z
  · show (if o = Own.v 0 then fp (.v i) else if o = Own.v 2 then F1 else []).Nodup
    split
    · exact h.nod _
    · split
      · exact nF
      · exact List.nodup_nil
  · revert q
    show a ∈ (if o = Own.v 0 then fp (.v i) else if o = Own.v 2 then F1 else []) → _
    split
    · exact fun q => hless_in (List.mem_append.mpr (.inl q))
    · split
      · exact fun q => hless_in (List.mem_append.mpr (.inr q))
      · exact fun z => nomatch z
  · revert q
    show a ∈ (if o = Own.v 0 then fp (.v i) else if o = Own.v 2 then F1 else []) → _
    split
    · exact h.dom _ a
    · split
      · exact r1.dom a
      · exact fun z => nomatch z
theorem HeldF.lentT3 (h : HeldF K m B H fp σ ss tv ts) (hx : σ[i]? = some (some x)) (hs : ss[i]? = some (.own d0)) (ht : noView (.v i) ts = true) (r1 : RepO K H d1 y F1) (dj : ∀ a ∈ F1, ∀ o, a ∉ fp o) (hB : ∀ a ∈ F1, B a = none)
    (g : Held K (fun k => k < 0) (hless H (fp (.v i) ++ F1)) H' [some x, some z, some y] [.own d', .par d2, .no] [v] [.own d]) : Held K m B H' σ ((ss.map (kill (.v i))).set i (.own d')) (v :: tv) (.own d :: ts) := by
  have tk : TK H (hless H F1) := fun a o q s => by
    rw [hless_at]
    · exact q
    · intro z
      obtain ⟨u, e1, n⟩ := r1.dom a z
      rw [q] at e1
      cases e1
      exact n s
  have h0 : HeldF K m B (hless H F1) fp σ ss tv ts := h.heap tk (fun a u e => by
    rw [hless_at (fun z => by rw [hB a z] at e; cases e)]
    exact h.base a u e) fun o a q => hless_at fun z => dj a z o q
  have e : hless H (fp (.v i) ++ F1) = hless (hless H F1) (fp (.v i)) := by
    funext a
    unfold hless
    by_cases q1 : a ∈ fp (.v i)
    · rw [if_pos (List.mem_append.mpr (.inl q1)), if_pos q1]
    · by_cases q2 : a ∈ F1
      · rw [if_pos (List.mem_append.mpr (.inr q2)), if_neg q1, if_pos q2]
      · rw [if_neg (fun z => (List.mem_append.mp z).elim q1 q2), if_neg q1, if_neg q2]
  rw [e] at g
  exact h0.lent (vs := [z, y]) (rs := [.par d2, .no]) hx hs ht g
end
structure MethT3 (P : Program) (w : World) (K : PySem.W.Frag) (mg : Str → Option Value) (base : Heap) (k : Nat) (C : Addr) (m : Str) (ps : List Str) (f : Addr) (fd : FuncData) (F : D → D → D → (D → D → Prop) → Prop) : Prop where
  ok : FnOk P w K mg base CX0 k f fd ps (spT3 K F)
  cl : Cls K C
  me : Meth K C m f
  bd : Binds K fd ps []
structure MethIK (P : Program) (w : World) (K : PySem.W.Frag) (mg : Str → Option Value) (base : Heap) (k : Nat) (C : Addr) (m : Str) (ps : List Str) (f : Addr) (fd : FuncData) (z : Str) (F : D → List D → (D → D → Prop) → Prop) : Prop where
  ok : FnOk P w K mg base CX0 k f fd ps (spI K F)
  cl : Cls K C
  me : Meth K C m f
  kb : KBn K fd ps 1 [z] (fun us ws => pick [0, 1] (us ++ [] ++ ws)) (fun vs zs => pick [0, 1] (vs ++ [] ++ zs))
section
variable {X : Cx} {fx : List Nat} {ss ts : List Slot} {Φ : List Slot → Slot → Prop} {e e1 e2 o : Expr} {es : List Expr} {pos p p' px apos : Pos} {x y f m z : Str} {E : DE} {C : Addr} {k j : Nat} {ps : List Str} {fa : Addr} {fd : FuncData} {dds : List D} {kws : List Keyword}
theorem cMethT3 {F : D → D → D → (D → D → Prop) → Prop} (M : MethT3 X.prog X.w X.K X.mg X.base k C m ps fa fd F) (i : Nat) {ns0 : List Str} {l0 : List D} (hr : Room j X.A) (hj : k ≤ j) {pl : Sem Bool}
    (h : EV X e1 ss ts fun s1 r1 => EV X e2 s1 (r1 :: ts) fun s r2 => ∃ d0 d1 d2, s[i]? = some (.own d0) ∧ noView (.v i) ts = true ∧ r1.is d1 ∧ d1.flat = true ∧ r2 = .own d2 ∧ F d0 d1 d2 fun d' d => Φ ((s.map (kill (.v i))).set i (.own d')) (.own d))
    (h0 : ss[i]? = some (.own (.ins C ns0 l0)) := by rfl) (hm0 : m ∉ ns0 := by decide) (hN : X.N[i]? = some y := by rfl) (hv : Vis X.env.scope y := by first | exact Or.inl rfl | exact Or.inr (Or.inl rfl) | exact Or.inr (Or.inr rfl)) (hd0 : (y == ("__debug__" : Str)) = false := by decide) (hcd : (y == ("__classdict__" : Str)) = false := by decide)
    (he1 : starEach [e1, e2] X.env = (false, eval e1 X.env) :: starEach [e2] X.env := by rfl) (he2 : starEach [e2] X.env = (false, eval e2 X.env) :: starEach [] X.env := by rfl) (hpl : (backTo pos (starEach [e2] X.env)).any (·.1) = false := by rfl)
    (ht : eval (.Call (.Attribute (.Name y p) m apos) [e1, e2] [] pos) X.env = (do
      let ov ← eval (.Name y p) X.env
      standAt apos.atName
      let (f, first) ← holding [ov] (getMethod ov m pl)
      callWith pos f first (backTo pos (starEach [e1, e2] X.env)) (backToKw pos (keywordEach [] X.env))) := by rfl) : EV X (.Call (.Attribute (.Name y p) m apos) [e1, e2] [] pos) ss ts Φ := fun mm B σ tv H Q hm hh kk => by
  refine toE (pe_meth (pe_var hN hv hd0 hcd) M.cl M.me M.ok (hr.mono hj) M.bd .nil pass0 (pa_cons pe_w (pa_cons pe_w pa_nil he2) he1) he1 hpl ht) ?_
  obtain ⟨fp, hf⟩ := id hh
  obtain ⟨x0, q0, z⟩ := hf.var i _ h0
  have ex : σ[i]? = some (some x0) := by
    cases e : σ[i]? with
    | none => rw [e] at q0; cases q0
    | some y => rw [e] at q0; have z : y = some x0 := q0; rw [z]
  unfold RepO at z
  obtain ⟨a, dx, fs, G, rfl, ea, ed, en, eF, rl⟩ := z
  refine ⟨.ref a, ex, a, dx, fs, rfl, ea, no_lookup (K := X.K) en hm0, ?_⟩
  refine h mm B σ tv H _ hm hh fun s1 r1 v1 H1 h1 hh1 => ?_
  refine h1 mm B σ (v1 :: tv) H1 _ hm.up hh1 fun s r2 v2 H2 ⟨d0, d1, d2, hs, hv1, i1, fl, er, hF⟩ hh2 => ?_
  subst er
  have rr := hh2.top2 i1
  obtain ⟨fp2, h2⟩ := hh2
  obtain ⟨fp3, F1, h3, _, ra, n1, dj, hB, _⟩ := h2.take hm.up
  have h4 := h3.pop hm
  exact ⟨_, _, h4.lendT3 ex hs ra n1 dj rr fl, d0, d1, d2, _, rfl, hF, fun d' d q r H' g => kk _ (.own d) r H' q (h4.lentT3 ex hs hv1 ra dj hB g)⟩
theorem cMethIK {F : D → List D → (D → D → Prop) → Prop} (M : MethIK X.prog X.w X.K X.mg X.base k C m ps fa fd z F) (i : Nat) {ns0 : List Str} {l0 : List D} (hr : Room j X.A) (hj : k ≤ j) {pl : Sem Bool}
    (h : KV X kws ss ts fun s rs => ∃ d0 d1, s[i]? = some (.own d0) ∧ noView (.v i) ts = true ∧ isNs (.v i) rs [d1] ∧ F d0 [d1] fun d' d => Φ ((s.map (kill (.v i))).set i (.own d')) (.own d))
    (h0 : ss[i]? = some (.own (.ins C ns0 l0)) := by rfl) (hm0 : m ∉ ns0 := by decide) (hN : X.N[i]? = some y := by rfl) (hv : Vis X.env.scope y := by first | exact Or.inl rfl | exact Or.inr (Or.inl rfl) | exact Or.inr (Or.inr rfl)) (hd0 : (y == ("__debug__" : Str)) = false := by decide) (hcd : (y == ("__classdict__" : Str)) = false := by decide)
    (hall : (backToKw pos (keywordEach kws X.env)).all (·.1.isSome) = true := by rfl) (hks : (backToKw pos (keywordEach kws X.env)).filterMap (·.1) = [z] := by rfl)
    (hpl : ((backTo pos (starEach [] X.env)).any (·.1) || (backToKw pos (keywordEach kws X.env)).any (·.1.isNone)) = false := by rfl)
    (ht : eval (.Call (.Attribute (.Name y p) m apos) [] kws pos) X.env = (do
      let ov ← eval (.Name y p) X.env
      standAt apos.atName
      let (f, first) ← holding [ov] (getMethod ov m pl)
      callWith pos f first (backTo pos (starEach [] X.env)) (backToKw pos (keywordEach kws X.env))) := by rfl) : EV X (.Call (.Attribute (.Name y p) m apos) [] kws pos) ss ts Φ := fun mm B σ tv H Q hm hh kk => by
  obtain ⟨fp, hf⟩ := id hh
  obtain ⟨x0, q0, zz⟩ := hf.var i _ h0
  have ex : σ[i]? = some (some x0) := by
    cases e : σ[i]? with
    | none => rw [e] at q0; cases q0
    | some y => rw [e] at q0; have z : y = some x0 := q0; rw [z]
  unfold RepO at zz
  obtain ⟨a, dx, fs, G, rfl, ea, ed, en, eF, rl⟩ := zz
  refine ⟨fun pins s I => ?_⟩
  refine PySem.W.methodCall_KW (pl := pl) (thn ((pe_var (X := X) hN hv hd0 hcd).run pins s σ H (fun v H1 => v = .ref a ∧ H1 = H) I ⟨.ref a, ex, rfl, rfl⟩) fun u s1 ⟨x, H1, I1, rx, ex1, eH⟩ => ?_) ht
  subst ex1 eH
  obtain rfl : u = Value.ref a := rx
  refine getmeth_ok I1 ea M.cl M.me (no_lookup (K := X.K) en hm0) ?_
  refine PySem.W.callWith_KW0 (first := [.ref a]) (h₀ := X.base) I1.ok.mod.kin M.me.kp hall ?_ hpl
  refine thn (pk_w.run pos pins s1 σ H1 (fun zs H2 => spI X.K F (pick [0, 1] ([V.ref a] ++ [] ++ zs)) H2 Q E0 ∧ zs.length = 1) I1 (h mm B σ tv H1 _ hm hh fun s2 rs vs H2 ⟨d0, d1, hs, hv1, ia, hF⟩ l1 l2 ⟨fp1, h1⟩ => ?_)) fun ws s2 ⟨zs, H2, I2, rz, q2, l3⟩ => ⟨I2.kIn, ?_⟩
  · have r1 := (HeldF.repsN (by simpa using l1) h1 ia.rev hm).rev
    rw [List.reverse_reverse, List.reverse_reverse] at r1
    have l3 : vs.reverse.length = rs.reverse.length := by simpa using l1
    have hpop := HeldF.popN l3 h1 hm
    obtain ⟨fp3, h3, e3⟩ : ∃ fp3, HeldF X.K mm B H2 fp3 σ s2 tv ts ∧ fp3 (.v i) = fp1 (.v i) := ⟨_, hpop, rfl⟩
    have r2 := r1
    unfold RepRs at r2
    obtain ⟨w1, ws, rfl, _, r2⟩ := r2
    unfold RepRs at r2
    subst r2
    refine ⟨⟨_, _, HeldF.lend h3 ex hs (ds := [d1]) (by rw [e3]; exact r1), d0, [d1], _, rfl, hF, fun d' d q r H' g => ?_⟩, rfl⟩
    refine kk _ (.own d) r H' q ?_
    exact HeldF.lent h3 ex hs hv1 g
  · rw [hks]
    exact run_fnN (us := [.ref a]) (vs := [.ref a]) M.ok (hr.mono hj) M.kb pass0 I2 (.cons rfl .nil) rz rfl l3 q2
theorem cMake0 {F : D → List D → (D → D → Prop) → Prop} (M : MakeAt X.prog X.w X.K X.mg X.base k x C ps fa fd F) (hr : Room j X.A) (hj : k + 1 ≤ j)
    (h : F (.ins C [] []) [] fun d' d => d = .non ∧ Φ ss (.own d')) (hg : Gl X x := by rfl)
    (hdb : (x == ("__debug__" : Str)) = false := by decide) : EV X (.Call (.Name x p) [] [] pos) ss ts Φ := fun m B σ tv H Q hm hh kk => by
  refine toE (pe_make0 (dvs := []) M.mkr M.ok (hr.mono hj) hg M.nm M.bd .nil pass0 hdb) ?_
  intro x dx n1 n2 ne
  refine ⟨H, _, held_self (ds := []) (vs := []) reps_nil n1 n2 ne, .ins C [] [], [], _, rfl, h, fun d' d ⟨e1, hk⟩ r H2 ⟨fp, h2⟩ => ?_⟩
  subst e1
  obtain ⟨w, w1, w2⟩ := h2.top
  cases w1
  unfold RepO at w2
  refine ⟨w2.1, ?_⟩
  obtain ⟨u, u1, u2⟩ := h2.var 0 _ rfl
  cases u1
  exact kk ss _ _ H2 hk (hh.new ⟨h2.base, _, u2, h2.nod _, fun a ha => h2.out _ a ha⟩)
end
end DL
namespace DL
open PySem PySem.Spec PyProof.Rows L2
theorem val_look {K : PySem.W.Frag} {H : Hp} : ∀ {ks : List Str} {l : List D} {kvs : List (Key × V)} {z : Str} {d : D}, kvs.map (·.1) = ks.map (Sum.inr : Str → Key) → RepRs K H l (kvs.map (·.2)) → (ks.zip l).lookup z = some d → ∃ w, L2.valV kvs (Sum.inr z) = some w ∧ RepR K H d w
  | [], l, kvs, z, d, _, _, h => by simp at h
  | k :: ks, [], kvs, z, d, _, _, h => by simp at h
  | k :: ks, e :: l, [], z, d, hk, _, _ => by simp at hk
  | k :: ks, e :: l, q :: kvs, z, d, hk, hr, h => by
    rw [List.map_cons, List.map_cons] at hk
    obtain ⟨h1, h2⟩ := List.cons.inj hk
    rw [List.map_cons] at hr
    unfold RepRs at hr
    obtain ⟨w, ws, e1, r1, r2⟩ := hr
    obtain ⟨e2, e3⟩ := List.cons.inj e1
    subst e3
    rw [List.zip_cons_cons, List.lookup_cons] at h
    by_cases e : z = k
    · subst e
      rw [beq_self_eq_true] at h
      cases h
      exact ⟨w, (L2.valV_pos (p := q) (r := kvs) h1).trans (congrArg some e2), r1⟩
    · rw [beq_eq_false_iff_ne.mpr e] at h
      obtain ⟨w2, g1, g2⟩ := val_look h2 r2 h
      exact ⟨w2, (L2.valV_neg (p := q) (r := kvs) (fun y => e (Sum.inr.inj (h1.symm.trans y)).symm)).trans g1, g2⟩
theorem val_miss : ∀ {ks : List Str} {kvs : List (Key × V)} {z : Str}, kvs.map (·.1) = ks.map (Sum.inr : Str → Key) → z ∉ ks → L2.valV kvs (Sum.inr z) = none
  | [], [], z, _, _ => rfl
  | [], q :: kvs, z, hk, _ => by simp at hk
  | k :: ks, [], z, hk, _ => by simp at hk
  | k :: ks, q :: kvs, z, hk, h => by
    rw [List.map_cons, List.map_cons] at hk
    obtain ⟨h1, h2⟩ := List.cons.inj hk
    exact (L2.valV_neg (p := q) (r := kvs) (fun y => h (by rw [← Sum.inr.inj (h1.symm.trans y)]; exact List.mem_cons_self))).trans (val_miss h2 fun y => h (List.mem_cons_of_mem _ y))
theorem val_hit : ∀ {ks : List Str} {kvs : List (Key × V)} {z : Str}, kvs.map (·.1) = ks.map (Sum.inr : Str → Key) → z ∈ ks → (L2.valV kvs (Sum.inr z)).isSome = true
  | [], _, z, _, h => nomatch h
  | k :: ks, [], z, hk, _ => by simp at hk
  | k :: ks, q :: kvs, z, hk, h => by
    rw [List.map_cons, List.map_cons] at hk
    obtain ⟨h1, h2⟩ := List.cons.inj hk
    by_cases e : q.1 = Sum.inr z
    · rw [L2.valV_pos (p := q) (r := kvs) e]
      rfl
    · rw [L2.valV_neg (p := q) (r := kvs) e]
      rcases List.mem_cons.mp h with rfl | h
      · exact absurd h1 e
      · exact val_hit h2 h
theorem val_isSome {ks : List Str} {kvs : List (Key × V)} {z : Str} (hk : kvs.map (·.1) = ks.map (Sum.inr : Str → Key)) : (L2.valV kvs (Sum.inr z)).isSome = decide (z ∈ ks) := by
  by_cases h : z ∈ ks
  · rw [val_hit hk h, decide_eq_true h]
  · rw [val_miss hk h, decide_eq_false h]
    rfl
def holds (s : Option Slot) (d : D) : Prop := s = some (.own d) ∨ s = some (.par d)
theorem HeldF.holds {K : PySem.W.Frag} {m : Nat → Prop} {B H : Hp} {σ : List (Option V)} {tv : List V} {fp : Own → List Addr} {ss ts : List Slot} (h : HeldF K m B H fp σ ss tv ts) {g : Nat} {d : D} (e : holds ss[g]? d) : ∃ w, RepR K H d w := by
  rcases e with e | e
  · obtain ⟨w, _, r⟩ := (h.var g _ e).read h.base (.inl rfl)
    exact ⟨w, r⟩
  · obtain ⟨w, _, r⟩ := (h.var g _ e).read h.base (.inr (.inl rfl))
    exact ⟨w, r⟩
theorem dct_at {K : PySem.W.Frag} {H : Hp} {ks : List Str} {l : List D} {b : Addr} (h : RepR K H (.dct ks l) (.ref b)) : ∃ kvs, H b = some (.dK kvs) ∧ kvs.map (·.1) = ks.map (Sum.inr : Str → Key) ∧ RepRs K H l (kvs.map (·.2)) := by
  unfold RepR at h
  obtain ⟨a, kvs, e, h1, h2, h3⟩ := h
  cases e
  exact ⟨kvs, h1, h2, h3⟩
section
variable {X : Cx} {fx : List Nat} {sts : List Stmt} {ss ts : List Slot} {E : DE} {Φ : List Slot → Slot → Prop} {Θ : List Slot → Bool → Prop} {e a b o idx value : Expr} {pos p pos' : Pos} {x : Str}
theorem eDctNew (q : Φ ss (.own (.dct [] []))) : EV X (.Dict [] [] pos) ss ts Φ := fun m B σ tv H Q hm hh k => by
  refine toE pe_dnewK fun p hp => ?_
  refine k _ _ (.ref p) _ q (hh.fresh (Ex.new hp) (F := [p]) ?_ (by simp) fun a ha => by
    rw [List.mem_singleton.mp ha]
    exact hp)
  unfold RepO
  exact ⟨p, [], [], rfl, upd_same, rfl, rfl, by unfold RepOs; exact ⟨rfl, rfl⟩⟩
theorem tNotInDct (g : Nat) (hu : X.A.units + 1 < cLine) (h : EV X a ss ts fun s1 r1 => EV X o s1 (r1 :: ts) fun s r2 => ∃ z c ks l D0, r1.is (.str z) ∧ r2 = .own (.raw (.ref c)) ∧ holds s[g]? D0 ∧ Has (.dct ks l) (.ref c) D0 ∧ Θ s (!decide (z ∈ ks))) (hb : behindInMarks .NotIn o = false := by rfl) : TV X (.Compare a [.NotIn] [o] pos) ss ts Θ := fun m B σ tv H Q hm hh k => by
  refine toT (pt_cmpR (op_dNot hu) pe_w pe_w hb) ?_
  refine h m B σ tv H _ hm hh fun s1 r1 x H1 h1 hh1 => ?_
  refine h1 m B σ (x :: tv) H1 _ hm.up hh1 fun s r2 y H2 ⟨z, c, ks, l, D0, e1, e2, hs, hd, q⟩ hh2 => ?_
  subst e2
  have rx := hh2.top2 e1
  rw [rep_str] at rx
  have ry := hh2.top (d := .raw (.ref c)) Slot.is_own
  rw [rep_raw] at ry
  subst rx ry
  obtain ⟨fp, hf⟩ := id hh2
  obtain ⟨w, r⟩ := hf.holds hs
  obtain ⟨kvs, ea, hk, _⟩ := dct_at (hd.rep r)
  refine ⟨c, _, rfl, DGet.k (k := Sum.inr z) ea, _, rfl, ?_⟩
  rw [val_isSome hk]
  exact k s _ H2 q ((hh2.pop hm.up).pop hm)
theorem eDctGet (g : Nat) (hu : X.A.units + 1 < cLine) (h : EV X o ss ts fun s1 r1 => EV X idx s1 (r1 :: ts) fun s r2 => ∃ z c ks l D0 d v, r1 = .own (.raw (.ref c)) ∧ r2.is (.str z) ∧ holds s[g]? D0 ∧ Has (.dct ks l) (.ref c) D0 ∧ (ks.zip l).lookup z = some (.nam d v) ∧ Φ s (.own (.raw v))) (hs : NoSl idx := by intro _ _; rfl) : EV X (.Subscript o idx pos) ss ts Φ := fun m B σ tv H Q hm hh k => by
  refine toE (pe_dget hu pe_w pe_w hs) ?_
  refine h m B σ tv H _ hm hh fun s1 r1 x H1 h1 hh1 => ?_
  refine h1 m B σ (x :: tv) H1 _ hm.up hh1 fun s r2 y H2 ⟨z, c, ks, l, D0, d, v, e1, e2, hs, hd, lk, q⟩ hh2 => ?_
  subst e1
  have ry := hh2.top e2
  rw [rep_str] at ry
  have rx := hh2.top2 (d := .raw (.ref c)) Slot.is_own
  rw [rep_raw] at rx
  subst rx ry
  obtain ⟨fp, hf⟩ := id hh2
  obtain ⟨w, r⟩ := hf.holds hs
  obtain ⟨kvs, ea, hk, rl⟩ := dct_at (hd.rep r)
  obtain ⟨u, g1, g2⟩ := val_look hk rl lk
  unfold RepR at g2
  obtain ⟨rfl, _⟩ := g2
  have gg := DGet.k (k := Sum.inr z) ea
  rw [g1] at gg
  exact ⟨c, u, rfl, gg, k s _ u H2 q (((hh2.pop hm.up).pop hm).pushF (by unfold RepO; exact ⟨rfl, rfl⟩))⟩
theorem sDctNew (i : Nat) (hu : X.A.units + 1 < cLine) (h : EV X value ss ts fun s1 r1 => EV X o s1 (r1 :: ts) fun s2 r2 => EV X idx s2 (r2 :: r1 :: ts) fun s r3 => ∃ z c d C f ks l, r1 = .own d ∧ r2 = .own (.raw (.ref c)) ∧ r3.is (.str z) ∧ s[i]? = some (.own (.ins C [f] [.nam (.dct ks l) (.ref c)])) ∧ z ∉ ks ∧ ks.length < 1000 ∧ noView (.v i) ts = true ∧ E.nx ((s.map (kill (.v i))).set i (.own (.ins C [f] [.dct (ks ++ [z]) (l ++ [d])]))))
    (hs : swapsWith value (some (.Subscript o idx pos')) pos.line X.env = pure false := by rfl) : S1 X fx (.Assign [.Subscript o idx pos'] value pos) ss ts E := fun B σ tv H D hh k => by
  refine toS (ps_dput hu pe_w pe_w pe_w hs) ?_
  refine h (fun k => k < ts.length) B σ tv H _ Low.self hh fun s1 r1 v1 H1 h1 hh1 => ?_
  refine h1 (fun k => k < ts.length) B σ (v1 :: tv) H1 _ Low.self.up hh1 fun s2 r2 v2 H2 h2 hh2 => ?_
  refine h2 (fun k => k < ts.length) B σ (v2 :: v1 :: tv) H2 _ Low.self.up.up hh2 fun s r3 v3 H3 ⟨z, c, d, C, f, ks, l, e1, e2, e3, hi, hz, hl, hv1, q⟩ hh3 => ?_
  subst e1 e2
  have r3 := hh3.top e3
  rw [rep_str] at r3
  have r2' := hh3.top2 (d := .raw (.ref c)) Slot.is_own
  rw [rep_raw] at r2'
  subst r3 r2'
  obtain ⟨fp1, hf1⟩ := (hh3.pop Low.self.up.up).pop Low.self.up
  obtain ⟨fp2, F2, hf, s2', rd, n2, o2, b2, _⟩ := hf1.take Low.self
  obtain ⟨w, e4, e5⟩ := hf.var i _ hi
  unfold RepO at e5
  obtain ⟨a, dx, fs, G, rfl, ea, ed, en, eF, rl⟩ := e5
  unfold RepOs at rl
  obtain ⟨w1, ws, G1, G2, ew, eG, rn, rl⟩ := rl
  unfold RepOs at rl
  obtain ⟨rfl, rfl⟩ := rl
  unfold RepO at rn
  obtain ⟨rfl, rn⟩ := rn
  unfold RepO at rn
  obtain ⟨b, kvs, G', eb, ec, hk, eG1, rv⟩ := rn
  cases eb
  rw [List.append_nil] at eG
  subst eG eG1
  have lk : kvs.length = ks.length := by
    have := congrArg List.length hk
    simpa using this
  have nd := hf.nod (.v i)
  rw [eF] at nd
  have nd1 := List.nodup_cons.mp nd
  have nd2 := List.nodup_cons.mp nd1.2
  have nd3 := List.nodup_cons.mp nd2.2
  have mis := val_miss (z := z) hk hz
  refine ⟨c, _, rfl, DPut.k (k := Sum.inr z) ec (by rw [lk]; exact Nat.lt_of_lt_of_le hl (by decide)), ?_⟩
  rw [putK_new v1 mis]
  have tk : TK H3 (upd H3 c (.dK (kvs ++ [(Sum.inr z, v1)]))) := TK.upd ec fun z => z
  have inF : c ∈ fp2 (.v i) := by rw [eF]; exact List.mem_cons_of_mem _ (List.mem_cons_of_mem _ List.mem_cons_self)
  have hcF : ∀ y, y ∈ F2 → y ≠ c := fun y hy e => by
    subst e
    exact o2 y hy _ inF
  have hcG : ∀ y, y ∈ G' → y ≠ c := fun y hy e => by
    subst e
    exact nd3.1 hy
  have ac : a ≠ c := fun e => nd1.1 (by rw [e]; exact List.mem_cons_of_mem _ List.mem_cons_self)
  have dc : dx ≠ c := fun e => nd2.1 (by rw [e]; exact List.mem_cons_self)
  have h3 := hf.change (v := .ref a) (F' := a :: dx :: c :: (G' ++ F2)) (d' := .ins C [f] [.dct (ks ++ [z]) (l ++ [d])]) e4 (getElem?_lt hi) tk (fun y o hy e => by
      rw [upd_ne (fun z => hy (by rw [z]; exact inF))]
      exact e) (by
      unfold RepO
      refine ⟨a, dx, fs, c :: (G' ++ F2), rfl, by rw [upd_ne ac]; exact ea, by rw [upd_ne dc]; exact ed, en, rfl, ?_⟩
      unfold RepOs
      refine ⟨.ref c, [], c :: (G' ++ F2), [], ew, by rw [List.append_nil], ?_, by unfold RepOs; exact ⟨rfl, rfl⟩⟩
      unfold RepO
      refine ⟨c, _, G' ++ F2, rfl, upd_same, by rw [List.map_append, List.map_append, hk]; rfl, rfl, ?_⟩
      rw [List.map_append]
      exact (rv.frame tk fun y hy => upd_ne (hcG y hy)).append (RepOs.one (rd.frame tk fun y hy => upd_ne (hcF y hy)))) (by
      refine List.nodup_cons.mpr ⟨fun z => ?_, List.nodup_cons.mpr ⟨fun z => ?_, List.nodup_cons.mpr ⟨fun z => ?_, List.nodup_append.mpr ⟨nd3.2, n2, fun y hy y2 hy2 e => ?_⟩⟩⟩⟩
      · rcases List.mem_cons.mp z with z | z
        · exact nd1.1 (by rw [z]; exact List.mem_cons_self)
        · rcases List.mem_cons.mp z with z | z
          · exact ac z
          · rcases List.mem_append.mp z with z | z
            · exact nd1.1 (List.mem_cons_of_mem _ (List.mem_cons_of_mem _ z))
            · exact o2 a z (.v i) (by rw [eF]; exact List.mem_cons_self)
      · rcases List.mem_cons.mp z with z | z
        · exact dc z
        · rcases List.mem_append.mp z with z | z
          · exact nd2.1 (List.mem_cons_of_mem _ z)
          · exact o2 dx z (.v i) (by rw [eF]; exact List.mem_cons_of_mem _ List.mem_cons_self)
      · rcases List.mem_append.mp z with z | z
        · exact nd3.1 z
        · exact hcF c z rfl
      · subst e
        exact o2 y hy2 (.v i) (by rw [eF]; exact List.mem_cons_of_mem _ (List.mem_cons_of_mem _ (List.mem_cons_of_mem _ hy)))) (fun y hy => by
      rw [eF]
      rcases List.mem_cons.mp hy with rfl | hy
      · exact .inl List.mem_cons_self
      · rcases List.mem_cons.mp hy with rfl | hy
        · exact .inl (List.mem_cons_of_mem _ List.mem_cons_self)
        · rcases List.mem_cons.mp hy with rfl | hy
          · exact .inl (List.mem_cons_of_mem _ (List.mem_cons_of_mem _ List.mem_cons_self))
          · rcases List.mem_append.mp hy with hy | hy
            · exact .inl (List.mem_cons_of_mem _ (List.mem_cons_of_mem _ (List.mem_cons_of_mem _ hy)))
            · exact .inr ⟨o2 y hy, b2 y hy⟩) hv1
  exact k.nx _ σ _ q ⟨_, h3⟩ fun _ _ => rfl
end
def lentAll : List Slot → List D → Prop
  | [], [] => True
  | r :: rs, d :: ds => ((r = .own d ∧ d.flat = true) ∨ r = .par d) ∧ lentAll rs ds
  | _, _ => False
theorem lentAll.app : ∀ {as : List Slot} {cs : List D} {bs : List Slot} {ds : List D}, lentAll as cs → lentAll bs ds → lentAll (as ++ bs) (cs ++ ds)
  | [], [], _, _, _, h => h
  | a :: as, c :: cs, _, _, h, k => ⟨h.1, lentAll.app h.2 k⟩
  | [], _ :: _, _, _, h, _ => h.elim
  | _ :: _, [], _, _, h, _ => h.elim
theorem lentAll.rev : ∀ {as : List Slot} {cs : List D}, lentAll as cs → lentAll as.reverse cs.reverse
  | [], [], _ => trivial
  | a :: as, c :: cs, h => by
    rw [List.reverse_cons, List.reverse_cons]
    exact h.2.rev.app ⟨h.1, trivial⟩
theorem lentAll.len : ∀ {as : List Slot} {cs : List D}, lentAll as cs → as.length = cs.length
  | [], [], _ => rfl
  | a :: as, c :: cs, h => congrArg (· + 1) h.2.len
section
variable {K : PySem.W.Frag} {m : Nat → Prop} {B H : Hp} {σ : List (Option V)} {fp : Own → List Addr} {ss : List Slot}
theorem HeldF.lents : ∀ {rs : List Slot} {ds : List D} {vs tv : List V} {ts : List Slot}, HeldF K m B H fp σ ss (vs ++ tv) (rs ++ ts) → vs.length = rs.length → lentAll rs ds → Low m ts.length → RepRs K (restr H fun a => a ∈ fp (.v 0) ∨ (B a).isSome = true) ds vs
  | [], [], [], _, _, _, _, _, _ => reps_nil
  | [], [], v :: vs, _, _, _, e, _, _ => nomatch e
  | r :: rs, d :: ds, [], _, _, _, e, _, _ => nomatch e
  | r :: rs, d :: ds, v :: vs, tv, ts, h, e, l, hm => by
    refine reps_cons ?_ (HeldF.lents (rs := rs) (ds := ds) (vs := vs) (tv := tv) (ts := ts) (HeldF.pop (tv := vs ++ tv) (ts := rs ++ ts) h (hm.app _)) (by simpa using e) l.2 hm)
    have top := HeldF.top (tv := vs ++ tv) (ts := rs ++ ts) h
    rcases l.1 with ⟨e1, fl⟩ | e1
    · rw [e1] at top
      obtain ⟨w, e2, r1⟩ := top
      cases e2
      exact ((r1.rep.flatO fl).frame restr_tk fun _ z => nomatch z).rep
    · rw [e1] at top
      obtain ⟨w, e2, r1⟩ := top
      cases e2
      refine r1.mono fun a o q => ?_
      rw [restr_at (.inr (by rw [q]; rfl))]
      exact h.base a o q
end
section
variable {X : Cx} {ss ts : List Slot} {Φ : List Slot → Slot → Prop} {pos : Pos}
theorem eTupL {es : List Expr} {n : Nat} (h : AV X es ss ts fun s rs => ∃ ds : List D, lentAll rs ds ∧ ds.length ≤ 1000 ∧ Φ s (.view (.v 0) (.tup ds))) (ht : ∀ t, PA X es t → PE X (.Tuple es n pos) (tTup t) := by intro t h; exact pe_tup h) : EV X (.Tuple es n pos) ss ts Φ := fun m B σ tv H Q hm hh kk => by
  refine toE (ht _ pa_w) ?_
  refine h m B σ tv H _ hm hh fun s rs vs H1 ⟨ds, la, hl, q⟩ l1 l2 hh1 => ?_
  obtain ⟨fp, hf⟩ := hh1
  have ln := la.len
  have l3 : vs.reverse.length = rs.reverse.length := by simpa using l1
  have rr := (HeldF.lents hf l3 la.rev hm).rev
  rw [List.reverse_reverse, List.reverse_reverse] at rr
  have hp0 := HeldF.popN l3 hf hm
  refine ⟨by rw [sizeLine_eq]; omega, fun p hp => ?_⟩
  have exx := Ex.new (o := .tup vs) hp
  refine kk s _ _ _ q ⟨_, (hp0.ex exx).pushV (o := .t ts.length) (fun _ z => nomatch z) ⟨trivial, .ref p, rfl, ?_⟩⟩
  unfold RepR
  have st : restr (upd H1 p (.tup vs)) (fun a => a ∈ fp (.v 0) ∨ (B a).isSome = true) p = some (.tup vs) := by
    unfold restr
    rw [if_pos (.inr ⟨_, upd_same, trivial⟩), upd_same]
  refine ⟨p, vs, rfl, SqT.of st, rr.mono fun c o hc => ?_⟩
  have hc2 := hc
  unfold restr at hc
  split at hc
  · rename_i hif
    unfold restr
    have e1 := exx c o hc
    rw [if_pos (hif.imp id fun ⟨u, e, st⟩ => ⟨u, exx c u e, st⟩)]
    exact e1
  · cases hc
end
end DL
namespace K79
open PySem PySem.Spec PyProof.Rows L2 DL K03
def top (i : Nat) : Stmt := PySem.Challenge.pw_eitherslack_k79_texts_by_names.main.body.getD i (.Pass ⟨0, 0, 0, 0⟩)
abbrev s_divisor : Stmt := top 18
abbrev n_divisor : List Str := ["one", "other"]
abbrev p_divisor : List Str := ["one", "other"]
theorem sc_divisor : FnScope n_divisor p_divisor (defScope s_divisor) := ⟨rfl, rfl, rfl, by decide +kernel, rfl, by decide +kernel, by decide +kernel⟩
abbrev s_lowest : Stmt := top 19
abbrev n_lowest : List Str := ["top", "bottom", "whole", "rest", "e", "by"]
abbrev p_lowest : List Str := ["top", "bottom"]
theorem sc_lowest : FnScope n_lowest p_lowest (defScope s_lowest) := ⟨rfl, rfl, rfl, by decide +kernel, rfl, by decide +kernel, by decide +kernel⟩
abbrev s_fraction_text : Stmt := top 48
abbrev n_fraction_text : List Str := ["one"]
abbrev p_fraction_text : List Str := ["one"]
theorem sc_fraction_text : FnScope n_fraction_text p_fraction_text (defScope s_fraction_text) := ⟨rfl, rfl, rfl, by decide +kernel, rfl, by decide +kernel, by decide +kernel⟩
abbrev s_numbers_text : Stmt := top 49
abbrev n_numbers_text : List Str := ["row", "one"]
abbrev p_numbers_text : List Str := ["row"]
theorem sc_numbers_text : FnScope n_numbers_text p_numbers_text (defScope s_numbers_text) := ⟨rfl, rfl, rfl, by decide +kernel, rfl, by decide +kernel, by decide +kernel⟩
abbrev s_Table___init__ : Stmt := methOf (top 51) 0
abbrev n_Table___init__ : List Str := ["self", "rows", "place", "row"]
abbrev p_Table___init__ : List Str := ["self", "rows"]
theorem sc_Table___init__ : FnScope n_Table___init__ p_Table___init__ (defScope s_Table___init__) := ⟨rfl, rfl, rfl, by decide +kernel, rfl, by decide +kernel, by decide +kernel⟩
abbrev s_Table_rows : Stmt := methOf (top 51) 5
abbrev n_Table_rows : List Str := ["self", "row"]
abbrev p_Table_rows : List Str := ["self"]
theorem sc_Table_rows : FnScope n_Table_rows p_Table_rows (defScope s_Table_rows) := ⟨rfl, rfl, rfl, by decide +kernel, rfl, by decide +kernel, by decide +kernel⟩
abbrev s_row_text : Stmt := top 59
abbrev n_row_text : List Str := ["row"]
abbrev p_row_text : List Str := ["row"]
theorem sc_row_text : FnScope n_row_text p_row_text (defScope s_row_text) := ⟨rfl, rfl, rfl, by decide +kernel, rfl, by decide +kernel, by decide +kernel⟩
abbrev s_rows_text : Stmt := top 60
abbrev n_rows_text : List Str := ["rows", "row"]
abbrev p_rows_text : List Str := ["rows"]
theorem sc_rows_text : FnScope n_rows_text p_rows_text (defScope s_rows_text) := ⟨rfl, rfl, rfl, by decide +kernel, rfl, by decide +kernel, by decide +kernel⟩
abbrev s_parts_text : Stmt := top 61
abbrev n_parts_text : List Str := ["parts", "weight", "row"]
abbrev p_parts_text : List Str := ["parts"]
theorem sc_parts_text : FnScope n_parts_text p_parts_text (defScope s_parts_text) := ⟨rfl, rfl, rfl, by decide +kernel, rfl, by decide +kernel, by decide +kernel⟩
abbrev s_saying_text : Stmt := top 62
abbrev n_saying_text : List Str := ["saying"]
abbrev p_saying_text : List Str := ["saying"]
theorem sc_saying_text : FnScope n_saying_text p_saying_text (defScope s_saying_text) := ⟨rfl, rfl, rfl, by decide +kernel, rfl, by decide +kernel, by decide +kernel⟩
abbrev s_paper_text : Stmt := top 64
abbrev n_paper_text : List Str := ["paper", "things", "sign", "thing", "writer"]
abbrev p_paper_text : List Str := ["paper"]
theorem sc_paper_text : FnScope n_paper_text p_paper_text (defScope s_paper_text) := ⟨rfl, rfl, rfl, by decide +kernel, rfl, by decide +kernel, by decide +kernel⟩
abbrev s_read_count : Stmt := top 65
abbrev n_read_count : List Str := ["text", "sign"]
abbrev p_read_count : List Str := ["text"]
theorem sc_read_count : FnScope n_read_count p_read_count (defScope s_read_count) := ⟨rfl, rfl, rfl, by decide +kernel, rfl, by decide +kernel, by decide +kernel⟩
abbrev s_read_fraction : Stmt := top 66
abbrev n_read_fraction : List Str := ["text", "top", "mark", "bottom", "number", "below", "found"]
abbrev p_read_fraction : List Str := ["text"]
theorem sc_read_fraction : FnScope n_read_fraction p_read_fraction (defScope s_read_fraction) := ⟨rfl, rfl, rfl, by decide +kernel, rfl, by decide +kernel, by decide +kernel⟩
abbrev s_read_row : Stmt := top 67
abbrev n_read_row : List Str := ["text", "word"]
abbrev p_read_row : List Str := ["text"]
theorem sc_read_row : FnScope n_read_row p_read_row (defScope s_read_row) := ⟨rfl, rfl, rfl, by decide +kernel, rfl, by decide +kernel, by decide +kernel⟩
abbrev s_read_rows : Stmt := top 68
abbrev n_read_rows : List Str := ["text", "part"]
abbrev p_read_rows : List Str := ["text"]
theorem sc_read_rows : FnScope n_read_rows p_read_rows (defScope s_read_rows) := ⟨rfl, rfl, rfl, by decide +kernel, rfl, by decide +kernel, by decide +kernel⟩
abbrev s_read_part : Stmt := top 69
abbrev n_read_part : List Str := ["text", "weight", "mark", "row"]
abbrev p_read_part : List Str := ["text"]
theorem sc_read_part : FnScope n_read_part p_read_part (defScope s_read_part) := ⟨rfl, rfl, rfl, by decide +kernel, rfl, by decide +kernel, by decide +kernel⟩
abbrev s_read_parts : Stmt := top 70
abbrev n_read_parts : List Str := ["text", "part"]
abbrev p_read_parts : List Str := ["text"]
theorem sc_read_parts : FnScope n_read_parts p_read_parts (defScope s_read_parts) := ⟨rfl, rfl, rfl, by decide +kernel, rfl, by decide +kernel, by decide +kernel⟩
abbrev s_read_table : Stmt := top 72
abbrev n_read_table : List Str := ["text", "e"]
abbrev p_read_table : List Str := ["text"]
theorem sc_read_table : FnScope n_read_table p_read_table (defScope s_read_table) := ⟨rfl, rfl, rfl, by decide +kernel, rfl, by decide +kernel, by decide +kernel⟩
abbrev s_read_saying : Stmt := top 73
abbrev n_read_saying : List Str := ["text", "word", "mark", "rest"]
abbrev p_read_saying : List Str := ["text"]
theorem sc_read_saying : FnScope n_read_saying p_read_saying (defScope s_read_saying) := ⟨rfl, rfl, rfl, by decide +kernel, rfl, by decide +kernel, by decide +kernel⟩
abbrev s_read_paper : Stmt := top 74
abbrev n_read_paper : List Str := ["text", "word", "mark", "rest", "parts", "found", "sign", "part", "reader"]
abbrev p_read_paper : List Str := ["text"]
theorem sc_read_paper : FnScope n_read_paper p_read_paper (defScope s_read_paper) := ⟨rfl, rfl, rfl, by decide +kernel, rfl, by decide +kernel, by decide +kernel⟩
abbrev s_sure_name : Stmt := top 175
abbrev n_sure_name : List Str := ["word", "sign"]
abbrev p_sure_name : List Str := ["word"]
theorem sc_sure_name : FnScope n_sure_name p_sure_name (defScope s_sure_name) := ⟨rfl, rfl, rfl, by decide +kernel, rfl, by decide +kernel, by decide +kernel⟩
abbrev s_things_in : Stmt := top 177
abbrev n_things_in : List Str := ["word", "rest", "words", "found", "sign", "one"]
abbrev p_things_in : List Str := ["word", "rest"]
theorem sc_things_in : FnScope n_things_in p_things_in (defScope s_things_in) := ⟨rfl, rfl, rfl, by decide +kernel, rfl, by decide +kernel, by decide +kernel⟩
abbrev s_given_in : Stmt := top 178
abbrev n_given_in : List Str := ["word", "rest", "name", "mark", "text", "thing"]
abbrev p_given_in : List Str := ["word", "rest"]
theorem sc_given_in : FnScope n_given_in p_given_in (defScope s_given_in) := ⟨rfl, rfl, rfl, by decide +kernel, rfl, by decide +kernel, by decide +kernel⟩
abbrev s_line_in : Stmt := top 181
abbrev n_line_in : List Str := ["line", "word", "mark", "rest"]
abbrev p_line_in : List Str := ["line"]
theorem sc_line_in : FnScope n_line_in p_line_in (defScope s_line_in) := ⟨rfl, rfl, rfl, by decide +kernel, rfl, by decide +kernel, by decide +kernel⟩
abbrev s_Desk___init__ : Stmt := methOf (top 193) 0
abbrev n_Desk___init__ : List Str := ["self"]
abbrev p_Desk___init__ : List Str := ["self"]
theorem sc_Desk___init__ : FnScope n_Desk___init__ p_Desk___init__ (defScope s_Desk___init__) := ⟨rfl, rfl, rfl, by decide +kernel, rfl, by decide +kernel, by decide +kernel⟩
abbrev s_Desk_tell : Stmt := methOf (top 193) 1
abbrev n_Desk_tell : List Str := ["self", "line", "word", "signed", "things", "sayer", "sign", "thing"]
abbrev p_Desk_tell : List Str := ["self", "line"]
theorem sc_Desk_tell : FnScope n_Desk_tell p_Desk_tell (defScope s_Desk_tell) := ⟨rfl, rfl, rfl, by decide +kernel, rfl, by decide +kernel, by decide +kernel⟩
abbrev s_Desk_found : Stmt := methOf (top 193) 2
abbrev n_Desk_found : List Str := ["self", "sign", "thing"]
abbrev p_Desk_found : List Str := ["self", "sign", "thing"]
theorem sc_Desk_found : FnScope n_Desk_found p_Desk_found (defScope s_Desk_found) := ⟨rfl, rfl, rfl, by decide +kernel, rfl, by decide +kernel, by decide +kernel⟩
abbrev s_Desk_keep : Stmt := methOf (top 193) 4
abbrev n_Desk_keep : List Str := ["self", "word", "things", "thing"]
abbrev p_Desk_keep : List Str := ["self", "word", "things"]
theorem sc_Desk_keep : FnScope n_Desk_keep p_Desk_keep (defScope s_Desk_keep) := ⟨rfl, rfl, rfl, by decide +kernel, rfl, by decide +kernel, by decide +kernel⟩
abbrev s__law_mixed : Stmt := top 195
abbrev n__law_mixed : List Str := ["_law_cell", "_law_k", "_law_number"]
abbrev p__law_mixed : List Str := ["_law_cell", "_law_k"]
theorem sc__law_mixed : FnScope n__law_mixed p__law_mixed (defScope s__law_mixed) := ⟨rfl, rfl, rfl, by decide +kernel, rfl, by decide +kernel, by decide +kernel⟩
abbrev s__law_pile : Stmt := top 196
abbrev n__law_pile : List Str := ["_law_script", "_law_k", "_law_cell"]
abbrev p__law_pile : List Str := ["_law_script", "_law_k"]
theorem sc__law_pile : FnScope n__law_pile p__law_pile (defScope s__law_pile) := ⟨rfl, rfl, rfl, by decide +kernel, rfl, by decide +kernel, by decide +kernel⟩
abbrev s__law_take : Stmt := top 197
abbrev n__law_take : List Str := ["_law_pile_here", "_law_many", "_law_digit"]
abbrev p__law_take : List Str := ["_law_pile_here", "_law_many"]
theorem sc__law_take : FnScope n__law_take p__law_take (defScope s__law_take) := ⟨rfl, rfl, rfl, by decide +kernel, rfl, by decide +kernel, by decide +kernel⟩
abbrev s__law_by_names : Stmt := top 198
abbrev n__law_by_names : List Str := ["_law_numbers", "_law_due", "_law_desk", "_law_one"]
abbrev p__law_by_names : List Str := ["_law_numbers"]
theorem sc__law_by_names : FnScope n__law_by_names p__law_by_names (defScope s__law_by_names) := ⟨rfl, rfl, rfl, by decide +kernel, rfl, by decide +kernel, by decide +kernel⟩
abbrev s_law : Stmt := top 199
abbrev n_law : List Str := ["_law_script", "_law_at", "_law_pile_here", "_law_k"]
abbrev p_law : List Str := ["_law_script"]
theorem sc_law : FnScope n_law p_law (defScope s_law) := ⟨rfl, rfl, rfl, by decide +kernel, rfl, by decide +kernel, by decide +kernel⟩
section
variable {P : Program} {w : World} {K : PySem.W.Frag} {mg : Str → Option Value} {base : Heap}
def F_divisor : List D → (D → Prop) → Prop := fun ds k => ∃ p q : Int, ds = [.int p, .int q] ∧ k (.int (Int.gcd p q : Int))
theorem ok_divisor {f : Addr} {fd : FuncData} (Fn : FunD K "divisor" "divisor" (defArgs s_divisor) (defBody s_divisor) (defScope s_divisor) [] [] f fd) (T : Txt mg) : FnOk P w K mg base CX0 1 f fd p_divisor (spP K F_divisor) := by
  refine fun_okP Fn sc_divisor (fun ds q ⟨_, _, e, _⟩ => by rw [e]; rfl) fun cdv A outer s H E hr ds k hF => ?_
  obtain ⟨p, q, rfl, hk⟩ := hF
  have nd := sc_divisor.nd
  refine sv_ownP 0 (sv_ownP 1 ?_)
  refine sv_cons (s1_while (fun n s => ∃ o t : Int, s = [.own (.int o), .own (.int t)] ∧ Int.gcd o t = Int.gcd p q ∧ t.natAbs = n) (by exact PassesOwn.never) ⟨_, p, q, rfl, rfl, rfl⟩ ?_)
  rintro n s ⟨o, t, rfl, hg, rfl⟩
  refine tNe <| nm 1 <| ev_int ⟨fun e => sv_one <| sPar 0 1 nd <| av_cons <| nm 1 <| av_cons <| eModN <| nm 0 <| nm 1 ⟨?_, av_nil ⟨_, _, rfl, rfl, rfl, rfl, ⟨_, ?_, _, _, rfl, ?_, rfl⟩⟩⟩, fun e => sv_one <| s1_ret <| eAbs T.abs <| nm 0 ⟨_, rfl, ?_⟩⟩
  · simpa using e
  · exact fmod_lt _ (by simpa using e)
  · rw [gcd_fmod]; exact hg
  · have e0 : t = 0 := by simpa using e
    subst e0
    rw [← gcd_zero, hg]
    exact hk
def F_lowest : List D → (D → Prop) → Prop := fun ds k => ∃ p q : Int, ds = [.int p, .int q] ∧ (q ≠ 0 ∧ q.natAbs < 2 ^ 8990) ∧ k (fq (Rat.divInt p q))
theorem ok_lowest {dvs : List V} {f : Addr} {fd : FuncData} (Fn : FunD K "lowest" "lowest" (defArgs s_lowest) (defBody s_lowest) (defScope s_lowest) dvs [] f fd) (T : Txt mg) {f1 : Addr} {fd1 : FuncData} (C : DefAt P w K mg base CX0 1 "divisor" p_divisor f1 fd1 [] F_divisor) : FnOk P w K mg base CX0 2 f fd p_lowest (spP K F_lowest) := by
  refine fun_okP Fn sc_lowest (fun ds q ⟨_, _, e, _⟩ => by rw [e]; rfl) fun cdv A outer s H E hr ds k hF => ?_
  obtain ⟨p, q, rfl, ⟨hq, hb⟩, hk⟩ := hF
  have nd := sc_lowest.nd
  have h0 : 0 < Int.gcd p q := Nat.pos_of_ne_zero fun z => hq (Int.gcd_eq_zero_iff.mp z).2
  refine sv_cons (s1_tryN rfl (sv_one (s1_asg (as := [2, 3]) (eDivmodN T.divmod <| nm 0 <| nm 1 ⟨⟨hq, log2_lt (lt_up hb (by decide)) (by decide)⟩, gv_tup rfl rfl <| gs_cons <| gOne 2 nd <| gs_cons <| gOne 3 nd <| gs_nil ?_⟩) (by decide))))
  refine sv_norm (ss' := [.par (.int p), .par (.int q), .own (.int (p.fdiv q)), .own (.int (p.fmod q)), .no, .no]) (by rfl) ?_
  refine sv_cons (s1_if <| tEq <| nm 3 <| ev_int ⟨fun e => sv_one <| s1_ret <| dTup <| av_cons <| nm 2 <| av_cons <| ev_int <| av_nil ⟨rfl, _, rfl, ?_⟩, fun e => sv_nil ?_⟩)
  · have e0 : p.fmod q = 0 := by simpa using e
    obtain ⟨e1, e2⟩ := lowest_whole hq e0
    unfold fq at hk
    rw [e1, e2] at hk
    exact hk
  refine sv_cons (sSet 5 nd <| cCall C hr (by decide) <| av_cons <| nm 0 <| av_cons <| nm 1 <| av_nil ⟨_, _, rfl, rfl, rfl, ?_⟩)
  refine sv_norm (ss' := [.par (.int p), .par (.int q), .own (.int (p.fdiv q)), .own (.int (p.fmod q)), .no, .own (.int (Int.gcd p q : Int))]) (by rfl) ?_
  have hgb : (Int.gcd p q : Int).natAbs < 2 ^ 8990 := Nat.lt_of_le_of_lt (Nat.le_of_dvd (by omega) (Int.natAbs_dvd_natAbs.mpr (Int.gcd_dvd_right ..))) hb
  have rest : ∀ g : Int, g = (if q < 0 then -(Int.gcd p q : Int) else (Int.gcd p q : Int)) → SV (cxOf CX0 P w K mg base n_lowest "lowest" (defScope s_lowest) f cdv A outer s H E).nox [] ((defBody s_lowest).drop 4) [.par (.int p), .par (.int q), .own (.int (p.fdiv q)), .own (.int (p.fmod q)), .no, .own (.int g)] [] { nx := fun _ => k .non, rt := fun _ r => ∃ d, r = .own d ∧ k d } := fun g eg => by
    have g0 : g ≠ 0 := by rw [eg]; split <;> omega
    have gb : g.natAbs < 2 ^ 8990 := by
      have : g.natAbs = (Int.gcd p q : Int).natAbs := by rw [eg]; split <;> omega
      rw [this]
      exact hgb
    have gl : g ≠ 0 ∧ g.natAbs.log2 < 9000 := ⟨g0, log2_lt (lt_up gb (by decide)) (by decide)⟩
    refine sv_one (s1_ret <| dTup <| av_cons <| eDivN <| nm 0 <| nm 5 ⟨gl, av_cons <| eDivN <| nm 1 <| nm 5 ⟨gl, av_nil ⟨rfl, _, rfl, ?_⟩⟩⟩)
    unfold fq at hk
    rw [lowest_num hq, lowest_den hq, ← eg] at hk
    exact hk
  refine sv_cons (s1_if <| tLt <| nm 1 <| ev_int ⟨fun e => sv_one <| sSet 5 nd <| eNeg <| nm 5 ⟨rfl, rfl, rest _ ?_⟩, fun e => sv_nil (rest _ ?_)⟩)
  · rw [if_pos (of_decide_eq_true e)]
  · rw [if_neg (of_decide_eq_false e)]
def F__law_mixed : List D → (D → Prop) → Prop := fun ds k => ∃ x y : Int, ds = [.int x, .int y] ∧ y.natAbs < 2 ^ 100 ∧ ∀ r, k (.int r)
theorem ok__law_mixed {f : Addr} {fd : FuncData} (Fn : FunD K "_law_mixed" "_law_mixed" (defArgs s__law_mixed) (defBody s__law_mixed) (defScope s__law_mixed) [] [] f fd) : FnOk P w K mg base CX0 1 f fd p__law_mixed (spP K F__law_mixed) := by
  refine fun_okP Fn sc__law_mixed (fun ds q ⟨_, _, e, _⟩ => by rw [e]; rfl) fun cdv A outer s H E hr ds k hF => ?_
  obtain ⟨x, y, rfl, hy, hk⟩ := hF
  have nd := sc__law_mixed.nd
  have c1 : CMulW (x % 2147483647) 48271 := cmul 40 40 (by omega) (by decide) (by decide) (by decide) (by decide)
  have c2 : CMulW y 69621 := cmul 100 40 hy (by decide) (by decide) (by decide) (by decide)
  refine sv_cons (sSet 2 nd <| eMod <| eAdd <| eAdd <| eMul <| eMod <| nm 0 <| ev_int ⟨by decide, ev_int ⟨c1, eMul <| nm 1 <| ev_int ⟨c2, ev_int <| ev_int ⟨by decide, rfl, rfl, ?_⟩⟩⟩⟩)
  generalize (x % 2147483647 * 48271 + y * 69621 + 11) = z
  refine sv_norm (ss' := [.par (.int x), .par (.int y), .own (.int (z % 2147483647))]) (by rfl) ?_
  have c3 : CMulW (z % 2147483647) (z % 2147483647) := cmul 40 40 (by omega) (by omega) (by decide) (by decide) (by decide)
  refine sv_cons (sSet 2 nd <| eMod <| eMul <| nm 2 <| nm 2 ⟨c3, ev_int ⟨by decide, rfl, rfl, ?_⟩⟩)
  generalize z % 2147483647 * (z % 2147483647) = u
  refine sv_norm (ss' := [.par (.int x), .par (.int y), .own (.int (u % 2147483629))]) (by rfl) ?_
  have c4 : CMulW (u % 2147483629) (u % 2147483629) := cmul 40 40 (by omega) (by omega) (by decide) (by decide) (by decide)
  refine sv_one (s1_ret <| eDiv <| eMod <| eMul <| nm 2 <| nm 2 ⟨c4, ev_int ⟨by decide, ev_int ⟨cdiv 10 (by decide) (by decide) (by decide) (by decide), _, rfl, hk _⟩⟩⟩)
def F__law_pile : List D → (D → Prop) → Prop := fun ds k => ∃ (ns : List Int) (i : Nat), ds = [.fz (ns.map D.int), .int i] ∧ i ≤ 100 ∧ ∀ d, Pile 10000 d → k d
theorem ok__law_pile {f : Addr} {fd : FuncData} (Fn : FunD K "_law_pile" "_law_pile" (defArgs s__law_pile) (defBody s__law_pile) (defScope s__law_pile) [] [] f fd) (T : Txt mg) : FnOk P w K mg base CX0 1 f fd p__law_pile (spP K F__law_pile) := by
  refine fun_okP Fn sc__law_pile (fun ds q ⟨_, _, e, _⟩ => by rw [e]; rfl) fun cdv A outer s H E hr ds k hF => ?_
  obtain ⟨ns, i, rfl, hi, hk⟩ := hF
  have nd := sc__law_pile.nd
  refine sv_cons (sSet 2 nd <| ev_int ⟨rfl, rfl, ?_⟩)
  refine sv_norm (ss' := [.par (.fz (ns.map D.int)), .par (.int i), .own (.int 0)]) (by rfl) ?_
  refine sv_cons (s1_if <| tLt <| nm 1 <| eLen rfl T.len <| nm 0 ?_)
  have rest : ∀ c : Int, SV (cxOf CX0 P w K mg base n__law_pile "_law_pile" (defScope s__law_pile) f cdv A outer s H E).nox [] ((defBody s__law_pile).drop 2) [.par (.fz (ns.map D.int)), .par (.int i), .own (.int c)] [] { nx := fun _ => k .non, rt := fun _ r => ∃ d, r = .own d ∧ k d } := fun c => by
    have e50 : (10 : Int) ^ (50 : Int).toNat = 100000000000000000000000000000000000000000000000000 := by decide +kernel
    have e18 : (10 : Int) ^ (18 : Int).toNat = 1000000000000000000 := by decide +kernel
    refine sv_one (s1_ret <| dLst <| av_cons <| eIx <| dLst <| av_cons <| ev_int <| av_cons <| eMod <| nm 2 <| eMul <| eMul <| ePow <| ev_int <| ev_int ⟨⟨by decide, by decide, by decide⟩, ePow <| ev_int <| ev_int ⟨⟨by decide, by decide, by decide⟩, ?_⟩⟩)
    rw [e50]
    refine ⟨cmul 200 200 (by decide +kernel) (by decide +kernel) (by decide) (by decide) (by decide), ePow <| ev_int <| ev_int ⟨⟨by decide, by decide, by decide⟩, ?_⟩⟩
    rw [e50]
    refine ⟨cmul 400 200 (by decide +kernel) (by decide +kernel) (by decide) (by decide) (by decide), by decide, av_nil ⟨rfl, eIntB T.int <| eGe <| eAbs T.abs <| nm 2 <| ePow <| ev_int <| ev_int ⟨⟨by decide, by decide, by decide⟩, ?_⟩⟩⟩
    rw [e18]
    have hz0 := Int.emod_nonneg c (show (100000000000000000000000000000000000000000000000000 * 100000000000000000000000000000000000000000000000000 * 100000000000000000000000000000000000000000000000000 : Int) ≠ 0 by decide)
    have hz1 : (c % (100000000000000000000000000000000000000000000000000 * 100000000000000000000000000000000000000000000000000 * 100000000000000000000000000000000000000000000000000)).natAbs < 2 ^ 500 := by
      have h2 := Int.emod_lt_of_pos c (show (0 : Int) < 100000000000000000000000000000000000000000000000000 * 100000000000000000000000000000000000000000000000000 * 100000000000000000000000000000000000000000000000000 by decide)
      have h3 : (100000000000000000000000000000000000000000000000000 * 100000000000000000000000000000000000000000000000000 * 100000000000000000000000000000000000000000000000000 : Int) < 2 ^ 500 := by decide +kernel
      have h4 : ((2 ^ 500 : Nat) : Int) = 2 ^ 500 := by decide +kernel
      omega
    generalize c % (100000000000000000000000000000000000000000000000000 * 100000000000000000000000000000000000000000000000000 * 100000000000000000000000000000000000000000000000000) = z at hz0 hz1 ⊢
    refine ⟨_, atI_if, rfl, av_cons <| eMod <| nm 2 <| ev_int ⟨by decide, av_cons <| eMul <| ev_int <| nm 1 ⟨cmul 10 10 (by decide) ?_ (by decide) (by decide) (by decide), av_nil ⟨rfl, _, rfl, hk _ ⟨_, _, _, rfl, ite_nn hz0, ite_lt hz1 (Nat.two_pow_pos _), ?_, ?_, ?_⟩⟩⟩⟩⟩
    · omega
    · omega
    · omega
    · omega
  by_cases hlt : i < ns.length
  · refine ⟨fun _ => sv_one <| sSet 2 nd <| eIx <| nm 0 <| nm 1 ⟨.int ns[i], ?_, rfl, rfl, rfl, rest _⟩, fun e => absurd (of_decide_eq_false e) ?_⟩
    · unfold atI ixN
      rw [if_pos (by omega), if_pos (by rw [List.length_map]; omega)]
      simp [hlt]
    · rw [List.length_map]
      omega
  · refine ⟨fun e => absurd (of_decide_eq_true e) ?_, fun _ => sv_nil (rest 0)⟩
    rw [List.length_map]
    omega
def F__law_take : D → List D → (D → D → Prop) → Prop := fun d0 ds k => ∃ (n : Nat) (m : Int), ds = [.int m] ∧ (Pile n d0 ∧ 0 < m ∧ m < 2 ^ 100 ∧ n ≤ 2 ^ 60) ∧ ∀ d' r, Pile (n + 1) d' → 0 ≤ r → r < m → k d' (.int r)
theorem ok__law_take {f : Addr} {fd : FuncData} (Fn : FunD K "_law_take" "_law_take" (defArgs s__law_take) (defBody s__law_take) (defScope s__law_take) [] [] f fd) {f1 : Addr} {fd1 : FuncData} (C : DefAt P w K mg base CX0 1 "_law_mixed" p__law_mixed f1 fd1 [] F__law_mixed) : FnOk P w K mg base CX0 2 f fd p__law_take (spI K F__law_take) := by
  refine fun_okI Fn sc__law_take (fun d0 ds q ⟨_, _, e, _⟩ => by rw [e]; rfl) fun cdv A outer s H E hr d0 ds k hF => ?_
  obtain ⟨n, m, rfl, ⟨⟨a, b, c, rfl, ha0, ha, hb, hc0, hc⟩, hm0, hm, hn⟩, hk⟩ := hF
  have nd := sc__law_take.nd
  have hmb : m.natAbs < 2 ^ 100 := by
    have h4 : ((2 ^ 100 : Nat) : Int) = 2 ^ 100 := by decide +kernel
    omega
  refine sv_cons (s1_if <| eIn <| eIx <| nm 0 <| ev_int ⟨_, rfl, rfl, dLst <| av_cons <| ev_int <| av_cons <| eNeg <| ev_int <| av_nil ⟨rfl, _, _, rfl, rfl, fun _ => ?_, fun _ => sv_nil ?_⟩⟩)
  · refine sv_cons (s1_asg (as := []) (eAdd <| eIx <| nm 0 <| ev_int ⟨_, rfl, rfl, ev_int <| gv_store 0 <| ev_int ⟨_, _, _, _, rfl, Slot.is_own, rfl, rfl, ?_⟩⟩) (by decide))
    refine sv_norm (ss' := [.own (.lst [.int a, .int b, .int (c + 1)]), .par (.int m), .no]) (by rfl) ?_
    have hcb : (c + 1).natAbs < 2 ^ 100 := by
      have h4 : (2 ^ 60 : Nat) + 1 < 2 ^ 100 := by decide +kernel
      omega
    refine sv_one (s1_ret <| eMod <| cCall C hr (by decide) <| av_cons <| eIx <| nm 0 <| ev_int ⟨_, rfl, rfl, av_cons <| eIx <| nm 0 <| ev_int ⟨_, rfl, rfl, av_nil ⟨_, _, rfl, hcb, fun r => nm 1 ⟨hm0, _, _, rfl, rfl, hk _ _ ⟨_, _, _, rfl, ha0, ha, hb, by omega, by omega⟩ (Int.emod_nonneg _ (by omega)) (Int.emod_lt_of_pos _ hm0)⟩⟩⟩⟩)
  · refine sv_cons (sSet 2 nd <| eMod <| eIx <| nm 0 <| ev_int ⟨_, rfl, rfl, nm 1 ⟨hm0, rfl, rfl, ?_⟩⟩)
    refine sv_norm (ss' := [.own (.lst [.int a, .int b, .int c]), .par (.int m), .own (.int (a % m))]) (by rfl) ?_
    refine sv_cons (s1_asg (as := []) (eDiv <| eIx <| nm 0 <| ev_int ⟨_, rfl, rfl, nm 1 ⟨cdiv 100 hm0 hmb (by decide) (by decide), gv_store 0 <| ev_int ⟨_, _, _, _, rfl, Slot.is_own, rfl, rfl, ?_⟩⟩⟩) (by decide))
    refine sv_norm (ss' := [.own (.lst [.int (a / m), .int b, .int c]), .par (.int m), .own (.int (a % m))]) (by rfl) ?_
    refine sv_one (s1_ret <| nm 2 ⟨_, _, rfl, rfl, hk _ _ ⟨_, _, _, rfl, Int.ediv_nonneg ha0 (by omega), ?_, hb, hc0, by omega⟩ (Int.emod_nonneg _ (by omega)) (Int.emod_lt_of_pos _ hm0)⟩)
    have := Int.ediv_le_self m ha0
    have := Int.ediv_nonneg ha0 (show 0 ≤ m by omega)
    omega
def F_Table___init__ (C : Addr) : D → List D → (D → D → Prop) → Prop := fun d0 ds k => ∃ R, d0 = .ins C [] [] ∧ ds = [tabD R] ∧ Sq R ∧ k (tblD C R) .non
theorem ok_Table___init__ {f C : Addr} {fd : FuncData} (Fn : FunD K "__init__" "Table.__init__" (defArgs s_Table___init__) (defBody s_Table___init__) (defScope s_Table___init__) [] [] f fd) (T : Txt mg) (c : Cls K C) (n : NoAttr K C "kept") : FnOk P w K mg base CX0 1 f fd p_Table___init__ (spI K (F_Table___init__ C)) := by
  refine fun_okI Fn sc_Table___init__ (fun d0 ds q ⟨_, _, e, _⟩ => by rw [e]; rfl) fun cdv A outer s H E hr d0 ds k hF => ?_
  obtain ⟨R, rfl, rfl, hS, hk⟩ := hF
  have nd := sc_Table___init__.nd
  have h1 := hS.one
  have h5 := hS.most
  refine sv_cons (s1_if <| tv_w <| wv_or <| tLt <| eLen rfl T.len <| nm 1 <| ev_int ⟨fun z => absurd (of_decide_eq_true z) (by rw [List.length_map]; omega), fun _ => wv_or1 <| tGt <| eLen rfl T.len <| nm 1 <| ev_int ⟨fun z => absurd (of_decide_eq_true z) (by rw [List.length_map]; omega), fun _ => sv_nil ?_⟩⟩)
  refine sv_cons (sFor [2, 3] <| wEnumV T.enum <| nm 1 ⟨_, rfl, fun i s => s = [.own (.ins C [] []), .par (tabD R), .no, .no], rfl, ?_, ?_⟩)
  · rintro i el s hel rfl
    obtain ⟨r, hr0, rfl⟩ := els_enumV hel
    have hl := hS.sq r (List.mem_of_getElem? hr0)
    refine gTwo 2 3 nd ?_
    exact sv_one (s1_if <| tNe <| eLen rfl T.len <| nm 3 <| eLen rfl T.len <| nm 1 ⟨fun z => nd1 (by rw [List.length_map, List.length_map, hl]) z, fun _ => sv_forget [2, 3] (sv_nil rfl)⟩)
  rintro s rfl
  refine sv_one (s1_fld (i := 0) (ns := []) (l0 := []) rfl (.inl rfl) c n (by decide) (by decide) <| eLc [("row", 3)] nd (blkOk_by (N := n_Table___init__) (sc := defScope s_Table___init__) (by decide +kernel)) <| wLstV <| nm 1 ⟨_, rfl, fun i s acc => s = [.own (.ins C [] []), .par (tabD R), .no, .no] ∧ acc = (R.take i).map rowD, ⟨rfl, rfl⟩, ?_, ?_⟩)
  · rintro i el s acc hel ⟨rfl, rfl⟩ s0 H0 C0 cl fp
    obtain ⟨dd, hd, rfl⟩ := els_get hel
    rw [List.getElem?_map] at hd
    obtain ⟨r, hr0, rfl⟩ := Option.map_eq_some_iff.mp hd
    have hin := getElem?_lt hr0
    refine gOne 3 nd fun s0 H0 C0 cl fp => tsv_nil ⟨fun _ s0 H0 C0 cl fp => eListOf T.list <| nm 3 ⟨flats_fq r, _, rfl, by rw [List.length_map, List.length_take]; omega, rfl, by rw [take_next hr0, List.map_append]; rfl⟩, fun z => (nomatch z)⟩
  · rintro s acc ⟨rfl, rfl⟩
    rw [List.length_map, List.length_map, List.take_length]
    exact ⟨_, _, rfl, rfl, rfl, _, rfl, hk⟩
def F_Table_rows (C : Addr) : List D → (D → Prop) → Prop := fun ds k => ∃ R, ds = [tblD C R] ∧ R.length ≤ 1000 ∧ k (tabD R)
theorem ok_Table_rows {f C : Addr} {fd : FuncData} (Fn : FunD K "rows" "Table.rows" (defArgs s_Table_rows) (defBody s_Table_rows) (defScope s_Table_rows) [] [] f fd) (T : Txt mg) (c : Cls K C) (n : NoAttr K C "kept") : FnOk P w K mg base CX0 1 f fd p_Table_rows (spP K (F_Table_rows C)) := by
  refine fun_okP Fn sc_Table_rows (fun ds q ⟨_, e, _⟩ => by rw [e]; rfl) fun cdv A outer s H E hr ds k hF => ?_
  obtain ⟨R, rfl, hl, hk⟩ := hF
  have nd := sc_Table_rows.nd
  refine sv_one (s1_ret <| eLc [("row", 1)] nd (blkOk_by (N := n_Table_rows) (sc := defScope s_Table_rows) (by decide +kernel)) <| wLstV <| eFld c n <| nm 0 ⟨rfl, _, rfl, _, rfl, fun i s acc => s = [.par (tblD C R), .no] ∧ acc = (R.take i).map rowD, ⟨rfl, rfl⟩, ?_, ?_⟩)
  · rintro i el s acc hel ⟨rfl, rfl⟩ s0 H0 C0 cl fp
    obtain ⟨dd, hd, rfl⟩ := els_get hel
    rw [List.getElem?_map] at hd
    obtain ⟨r, hr0, rfl⟩ := Option.map_eq_some_iff.mp hd
    have hin := getElem?_lt hr0
    refine gOne 1 nd fun s0 H0 C0 cl fp => tsv_nil ⟨fun _ s0 H0 C0 cl fp => eListOf T.list <| nm 1 ⟨flats_fq r, _, rfl, by rw [List.length_map, List.length_take]; omega, rfl, by rw [take_next hr0, List.map_append]; rfl⟩, fun z => (nomatch z)⟩
  · rintro s acc ⟨rfl, rfl⟩
    rw [List.length_map, List.length_map, List.take_length]
    exact ⟨_, rfl, hk⟩
end
end K79
namespace K79
open PySem PySem.Spec PyProof.Rows L2 DL K03
section
variable {P : Program} {w : World} {K : PySem.W.Frag} {mg : Str → Option Value} {base : Heap}
def F_fraction_text : List D → (D → Prop) → Prop := fun ds k => ∃ x : Rat, ds = [fq x] ∧ Sz 1000 x ∧ k (.str (numT x))
theorem ok_fraction_text {f : Addr} {fd : FuncData} (Fn : FunD K "fraction_text" "fraction_text" (defArgs s_fraction_text) (defBody s_fraction_text) (defScope s_fraction_text) [] [] f fd) (T : Txt mg) : FnOk P w K mg base CX0 1 f fd p_fraction_text (spP K F_fraction_text) := by
  refine fun_okP Fn sc_fraction_text (fun ds q ⟨_, e, _⟩ => by rw [e]; rfl) fun cdv A outer s H E hr ds k hF => ?_
  obtain ⟨x, rfl, hx, hk⟩ := hF
  have l1 : x.num.natAbs.log2 < 1920 := Nat.lt_trans (log_ltT hx.top (by decide)) (by decide)
  have l2 : (x.den : Int).natAbs.log2 < 1920 := Nat.lt_trans (log_ltT hx.bot (by decide)) (by decide)
  have b1 := istr_len hx.top
  have b2 := istr_len hx.bot
  unfold numT at hk
  refine sv_cons (s1_if <| tEq <| eIx <| nm 0 <| ev_int ⟨_, rfl, rfl, ev_int ⟨fun z => ?_, fun z => sv_nil ?_⟩⟩)
  · have z : (x.den : Int) = 1 := of_decide_eq_true z
    rw [if_pos (by omega)] at hk
    exact sv_one (s1_ret <| eStrI T.str <| eIx <| nm 0 <| ev_int ⟨_, rfl, rfl, l1, _, rfl, hk⟩)
  · have z : ¬ (x.den : Int) = 1 := of_decide_eq_false z
    rw [if_neg (by omega)] at hk
    refine sv_one (s1_ret <| eFsII <| eIx <| nm 0 <| ev_int ⟨_, rfl, rfl, ⟨l1, ?_⟩, eIx <| nm 0 <| ev_int ⟨_, rfl, rfl, l2, ?_, _, rfl, hk⟩⟩)
    · show (istr x.num ++ ("/" : Str)).length ≤ _
      rw [strLen_append, slash_len]
      omega
    · show (istr x.num ++ ("/" : Str) ++ istr (x.den : Int)).length ≤ _
      rw [strLen_append, strLen_append, slash_len]
      omega
def F_numbers_text : List D → (D → Prop) → Prop := fun ds k => ∃ r : List Rat, ds = [rowD r] ∧ (r.length ≤ 400 ∧ ∀ x, x ∈ r → Sz 1000 x) ∧ k (.str (rowT r))
theorem ok_numbers_text {f : Addr} {fd : FuncData} (Fn : FunD K "numbers_text" "numbers_text" (defArgs s_numbers_text) (defBody s_numbers_text) (defScope s_numbers_text) [] [] f fd) {f1 : Addr} {fd1 : FuncData} (FT : DefAt P w K mg base CX0 1 "fraction_text" p_fraction_text f1 fd1 [] F_fraction_text) : FnOk P w K mg base CX0 2 f fd p_numbers_text (spP K F_numbers_text) := by
  refine fun_okP Fn sc_numbers_text (fun ds q ⟨_, e, _⟩ => by rw [e]; rfl) fun cdv A outer s H E hr ds k hF => ?_
  obtain ⟨r, rfl, ⟨h5, hs⟩, hk⟩ := hF
  have nd := sc_numbers_text.nd
  refine sv_one (s1_ret <| eJoin <| ev_str <| eLc [("one", 1)] nd (blkOk_by (N := n_numbers_text) (sc := defScope s_numbers_text) (by decide +kernel)) <| wLst <| nm 0 ⟨_, rfl, flat_map fun _ => rfl, fun i s acc => s = [.par (rowD r), .no] ∧ acc = ((r.take i).map numT).map D.str, ⟨rfl, rfl⟩, ?_, ?_⟩)
  · rintro i el s acc hel ⟨rfl, rfl⟩ s0 H0 C0 cl fp
    obtain ⟨x, hx, rfl⟩ := els_get2 hel
    have hin := getElem?_lt hx
    refine gOne 1 nd fun s0 H0 C0 cl fp => tsv_nil ⟨fun _ s0 H0 C0 cl fp => cCall FT hr (by decide) <| av_cons <| nm 1 <| av_nil ⟨x, rfl, hs x (List.mem_of_getElem? hx), _, rfl, ?_, rfl, ?_⟩, fun z => (nomatch z)⟩
    · rw [List.length_map, List.length_map, List.length_take]; omega
    · rw [take_next hx, List.map_append, List.map_append]
      rfl
  rintro s acc ⟨rfl, rfl⟩
  rw [List.length_map, List.length_map, List.take_length]
  exact ⟨r.map numT, rfl, Nat.le_trans (row_sum hs h5) (by decide), _, rfl, hk⟩
theorem nm_rw {l : List Rat} (h : Rw l) : l.length ≤ 400 ∧ ∀ x, x ∈ l → Sz 1000 x := ⟨Nat.le_trans h.2.1 (by decide), fun x hx => (h.2.2 x hx).sz⟩
theorem rw_len {l : List Rat} (h : Rw l) : (rowT l).length ≤ 20040 := rowT_len (m := 10) (fun x hx => (h.2.2 x hx).sz) h.2.1
theorem lst_sum {l : List Str} {B m q : Nat} (h : ∀ y, y ∈ l → y.length ≤ B) (hm : l.length ≤ m) : (l.map (·.length)).sum + l.length * q ≤ m * (B + q) := by
  have h1 := sum_le h
  have h2 := Nat.mul_le_mul_right (B + q) hm
  rw [Nat.mul_add] at h2
  omega
theorem tabs_sum {R : List (List Rat)} (h : ∀ r, r ∈ R → Rw r) (hl : R.length ≤ 10) : ((R.map rowT).map (·.length)).sum + (R.map rowT).length * ("; " : Str).length ≤ 200420 := by
  rw [semi_len]
  exact lst_sum (B := 20040) (m := 10) (q := 2) (fun y hy => by
    obtain ⟨r, hr, rfl⟩ := List.mem_map.mp hy
    exact rw_len (h r hr)) (by rw [List.length_map]; exact hl)
theorem tabs_len {R : List (List Rat)} (h : ∀ r, r ∈ R → Rw r) (hl : R.length ≤ 10) : (tabT R).length ≤ 200420 := Nat.le_trans join_le (tabs_sum h hl)
theorem by_len : (" by " : Str).length = 4 := by decide +kernel
theorem prt_len {p : Rat × List Rat} (h : Nm p.1 ∧ Rw p.2) : (prtT p).length ≤ 22047 := by
  unfold prtT
  have h1 := numT_len h.1.sz
  have h2 := rw_len h.2
  rw [strLen_append, strLen_append, by_len]
  omega
theorem prs_sum {L : List (Rat × List Rat)} (h : ∀ p, p ∈ L → Nm p.1 ∧ Rw p.2) (hl : L.length ≤ 10) : ((L.map prtT).map (·.length)).sum + (L.map prtT).length * ("; " : Str).length ≤ 220490 := by
  rw [semi_len]
  exact lst_sum (B := 22047) (m := 10) (q := 2) (fun y hy => by
    obtain ⟨r, hr, rfl⟩ := List.mem_map.mp hy
    exact prt_len (h r hr)) (by rw [List.length_map]; exact hl)
theorem prs_len {L : List (Rat × List Rat)} (h : ∀ p, p ∈ L → Nm p.1 ∧ Rw p.2) (hl : L.length ≤ 10) : (prsT L).length ≤ 220490 := by
  unfold prsT
  split
  · exact Nat.le_trans (show ("none" : Str).length ≤ 4 by decide +kernel) (by decide)
  · exact Nat.le_trans join_le (prs_sum h hl)
theorem th_len {t : Thg} (h : thOk t) : (thT t).length ≤ 220490 := by
  cases t with
  | r l => exact Nat.le_trans (rw_len h) (by decide)
  | l R => exact Nat.le_trans (tabs_len h.2.2 h.2.1) (by decide)
  | s L => exact prs_len h.2 h.1
def F_row_text : List D → (D → Prop) → Prop := F_numbers_text
theorem ok_row_text {f : Addr} {fd : FuncData} (Fn : FunD K "row_text" "row_text" (defArgs s_row_text) (defBody s_row_text) (defScope s_row_text) [] [] f fd) {f1 : Addr} {fd1 : FuncData} (NT : DefAt P w K mg base CX0 2 "numbers_text" p_numbers_text f1 fd1 [] F_numbers_text) : FnOk P w K mg base CX0 3 f fd p_row_text (spP K F_row_text) := by
  refine fun_okP Fn sc_row_text (fun ds q ⟨_, e, _⟩ => by rw [e]; rfl) fun cdv A outer s H E hr ds k hF => ?_
  obtain ⟨r, rfl, hs, hk⟩ := hF
  exact sv_one (s1_ret <| cCall NT hr (by decide) <| av_cons <| nm 0 <| av_nil ⟨r, rfl, hs, _, rfl, hk⟩)
def F_rows_text : List D → (D → Prop) → Prop := fun ds k => ∃ R : List (List Rat), ds = [tabD R] ∧ (R.length ≤ 10 ∧ ∀ r, r ∈ R → Rw r) ∧ k (.str (tabT R))
theorem ok_rows_text {f : Addr} {fd : FuncData} (Fn : FunD K "rows_text" "rows_text" (defArgs s_rows_text) (defBody s_rows_text) (defScope s_rows_text) [] [] f fd) {f1 : Addr} {fd1 : FuncData} (NT : DefAt P w K mg base CX0 2 "numbers_text" p_numbers_text f1 fd1 [] F_numbers_text) : FnOk P w K mg base CX0 3 f fd p_rows_text (spP K F_rows_text) := by
  refine fun_okP Fn sc_rows_text (fun ds q ⟨_, e, _⟩ => by rw [e]; rfl) fun cdv A outer s H E hr ds k hF => ?_
  obtain ⟨R, rfl, ⟨h5, hs⟩, hk⟩ := hF
  have nd := sc_rows_text.nd
  refine sv_one (s1_ret <| eJoin <| ev_str <| eLc [("row", 1)] nd (blkOk_by (N := n_rows_text) (sc := defScope s_rows_text) (by decide +kernel)) <| wLstV <| nm 0 ⟨_, rfl, fun i s acc => s = [.par (tabD R), .no] ∧ acc = ((R.take i).map rowT).map D.str, ⟨rfl, rfl⟩, ?_, ?_⟩)
  · rintro i el s acc hel ⟨rfl, rfl⟩ s0 H0 C0 cl fp
    obtain ⟨dd, hd, rfl⟩ := els_get hel
    rw [List.getElem?_map] at hd
    obtain ⟨r, hr0, rfl⟩ := Option.map_eq_some_iff.mp hd
    have hin := getElem?_lt hr0
    have h := hs r (List.mem_of_getElem? hr0)
    refine gOne 1 nd fun s0 H0 C0 cl fp => tsv_nil ⟨fun _ s0 H0 C0 cl fp => cCall NT hr (by decide) <| av_cons <| nm 1 <| av_nil ⟨r, rfl, nm_rw h, _, rfl, ?_, rfl, ?_⟩, fun z => (nomatch z)⟩
    · rw [List.length_map, List.length_map, List.length_take]; omega
    · rw [take_next hr0, List.map_append, List.map_append]
      rfl
  rintro s acc ⟨rfl, rfl⟩
  rw [List.length_map, List.length_map, List.take_length]
  exact ⟨R.map rowT, rfl, Nat.le_trans (tabs_sum hs h5) (by decide), _, rfl, hk⟩
def F_parts_text : List D → (D → Prop) → Prop := fun ds k => ∃ L : List (Rat × List Rat), ds = [.lst (L.map prtD)] ∧ (L.length ≤ 10 ∧ ∀ p, p ∈ L → Nm p.1 ∧ Rw p.2) ∧ k (.str (prsT L))
theorem join_nil {y : Str} : Txt.join y [] = "" := by
  refine str_ext ?_
  rw [TL.join_eq]
  rfl
theorem prt_pos {p : Rat × List Rat} : 0 < (prtT p).length := by
  unfold prtT
  rw [strLen_append, strLen_append, by_len]
  omega
theorem join_pos {y p : Str} {l : List Str} (h : 0 < p.length) : (Txt.join y (p :: l)).length ≠ 0 := by
  have e : (Txt.join y (p :: l)).length = (TL.tl (Txt.join y (p :: l))).length := by rw [TL.tl, Array.length_toList]; rfl
  rw [e, TL.join_eq, TL.tl_join]
  have e2 : p.length = (TL.tl p).length := by rw [TL.tl, Array.length_toList]; rfl
  cases l with
  | nil =>
    show (TL.tl p).length ≠ 0
    omega
  | cons q l =>
    show (TL.tl p ++ _).length ≠ 0
    rw [List.length_append]
    omega
set_option maxHeartbeats 0 in
theorem ok_parts_text {f : Addr} {fd : FuncData} (Fn : FunD K "parts_text" "parts_text" (defArgs s_parts_text) (defBody s_parts_text) (defScope s_parts_text) [] [] f fd) {f1 f2 : Addr} {fd1 fd2 : FuncData} (FT : DefAt P w K mg base CX0 1 "fraction_text" p_fraction_text f1 fd1 [] F_fraction_text) (NT : DefAt P w K mg base CX0 2 "numbers_text" p_numbers_text f2 fd2 [] F_numbers_text) : FnOk P w K mg base CX0 3 f fd p_parts_text (spP K F_parts_text) := by
  refine fun_okP Fn sc_parts_text (fun ds q ⟨_, e, _⟩ => by rw [e]; rfl) fun cdv A outer s H E hr ds k hF => ?_
  obtain ⟨L, rfl, ⟨h5, hs⟩, hk⟩ := hF
  have nd := sc_parts_text.nd
  refine sv_one (s1_ret <| eOrS <| eJoin <| ev_str <| eLc [("weight", 1), ("row", 2)] nd (blkOk_by (N := n_parts_text) (sc := defScope s_parts_text) (by decide +kernel)) <| wLstV <| nm 0 ⟨_, rfl, fun i s acc => s = [.par (.lst (L.map prtD)), .no, .no] ∧ acc = ((L.take i).map prtT).map D.str, ⟨rfl, rfl⟩, ?_, ?_⟩)
  · rintro i el s acc hel ⟨rfl, rfl⟩ s0 H0 C0 cl fp
    obtain ⟨dd, hd, rfl⟩ := els_get hel
    rw [List.getElem?_map] at hd
    obtain ⟨p, hp, rfl⟩ := Option.map_eq_some_iff.mp hd
    have hin := getElem?_lt hp
    have h := hs p (List.mem_of_getElem? hp)
    have pl := prt_len h
    have l1 := numT_len h.1.sz
    have l2 := rw_len h.2
    refine gv_tupP rfl rfl (gs_cons (gOne 1 nd (gs_cons (gOne 2 nd (gs_nil ?_))))) rfl rfl
    refine fun s0 H0 C0 cl fp => tsv_nil ⟨fun _ s0 H0 C0 cl fp => eFsTT <| cCall FT hr (by decide) <| av_cons <| nm 1 <| av_nil ⟨p.1, rfl, h.1.sz, ⟨by omega, ?_⟩, cCall NT hr (by decide) <| av_cons <| nm 2 <| av_nil ⟨p.2, rfl, nm_rw h.2, ⟨by omega, ?_⟩, _, rfl, ?_, rfl, ?_⟩⟩, fun z => (nomatch z)⟩
    · rw [strLen_append, by_len]; omega
    · rw [strLen_append, strLen_append, by_len]; omega
    · rw [List.length_map, List.length_map, List.length_take]; omega
    · rw [take_next hp, List.map_append, List.map_append]
      rfl
  rintro s acc ⟨rfl, rfl⟩
  rw [List.length_map, List.length_map, List.take_length]
  unfold prsT at hk
  refine ⟨L.map prtT, rfl, Nat.le_trans (prs_sum hs h5) (by decide), Nat.le_trans join_le (Nat.le_trans (prs_sum hs h5) (by decide)), fun z => ?_, fun z => ?_⟩
  · cases L with
    | nil => exact absurd (by rw [List.map_nil, join_nil]; rfl) z
    | cons p L => rw [if_neg (by simp)] at hk; exact ⟨_, rfl, hk⟩
  · cases L with
    | nil => rw [if_pos rfl] at hk; exact eOne <| ev_str ⟨_, rfl, hk⟩
    | cons p L => exact absurd z (join_pos prt_pos)
end
end K79
namespace K79
open PySem PySem.Spec PyProof.Rows L2 DL K03
section
variable {P : Program} {w : World} {K : PySem.W.Frag} {mg : Str → Option Value} {base : Heap}
inductive Syg where
  | ans (l : List Rat)
  | wd (w : Str)
def syD : Syg → D
  | .ans l => .tup [.str "answered", rowD l]
  | .wd w => .tup [.str w]
def syT : Syg → Str
  | .ans l => ("answered " : Str) ++ rowT l
  | .wd w => w
def syOk : Syg → Prop
  | .ans l => Rw l
  | .wd w => w ∈ (["one", "few", "alone", "wide", "level"] : List Str)
def F_saying_text : List D → (D → Prop) → Prop := fun ds k => ∃ y : Syg, ds = [syD y] ∧ syOk y ∧ k (.str (syT y))
theorem ok_saying_text {f : Addr} {fd : FuncData} (Fn : FunD K "saying_text" "saying_text" (defArgs s_saying_text) (defBody s_saying_text) (defScope s_saying_text) [] [] f fd) {f1 : Addr} {fd1 : FuncData} (NT : DefAt P w K mg base CX0 2 "numbers_text" p_numbers_text f1 fd1 [] F_numbers_text) : FnOk P w K mg base CX0 3 f fd p_saying_text (spP K F_saying_text) := by
  refine fun_okP Fn sc_saying_text (fun ds q ⟨_, e, _⟩ => by rw [e]; rfl) fun cdv A outer s H E hr ds k hF => ?_
  obtain ⟨y, rfl, hy, hk⟩ := hF
  cases y with
  | ans l =>
    have hl := rw_len (l := l) hy
    have al : ("answered " : Str).length = 9 := by decide +kernel
    refine sv_norm (ss' := [.par (.tup [.str "answered", rowD l])]) (by rfl) ?_
    refine sv_cons (s1_if <| tEq <| eIx <| nm 0 <| ev_int ⟨_, rfl, rfl, ev_str ⟨fun z => ?_, fun z => by rw [decide_eq_true rfl] at z; cases z⟩⟩)
    refine sv_one (s1_ret <| eFsCT (by rw [al]; decide) <| cCall NT hr (by decide) <| av_cons <| eIxV <| nm 0 <| ev_int ⟨_, rfl, av_nil ⟨l, rfl, nm_rw hy, by omega, ?_, _, rfl, hk⟩⟩)
    rw [strLen_append, al]; omega
  | wd w =>
    have nw : w ≠ "answered" := fun z => by
      have h : w ∈ (["one", "few", "alone", "wide", "level"] : List Str) := hy
      rw [z] at h
      exact absurd h (by decide +kernel)
    refine sv_norm (ss' := [.par (.tup [.str w])]) (by rfl) ?_
    refine sv_cons (s1_if <| tEq <| eIx <| nm 0 <| ev_int ⟨_, rfl, rfl, ev_str ⟨fun z => absurd (of_decide_eq_true z) nw, fun z => sv_nil ?_⟩⟩)
    exact sv_one (s1_ret <| eIx <| nm 0 <| ev_int ⟨_, rfl, rfl, _, rfl, hk⟩)
def shpKV : List (Str × D) := [("minors", .str "r"), ("two", .str "rrr"), ("between", .str "rrr"), ("weights", .str "l"), ("beside", .str "rr"), ("lift", .str "r"), ("hold", .str "r"), ("squares", .str "s"), ("dip", .str "r"), ("answer", .str "r"), ("bars", .str "l")]
theorem shp_kv {u : Str} {c : List Nat} (h : shp u c) : ∃ z : Str, (u, D.str z) ∈ shpKV ∧ z.cps.toList = c ∧ u.length ≤ 10 ∧ c.length ≤ 3 ∧ 1 ≤ c.length ∧ u ≠ "" ∧ 32 ∉ TL.tl u := by
  unfold shp at h
  simp only [List.mem_cons, List.not_mem_nil, or_false, Prod.mk.injEq] at h
  rcases h with ⟨rfl, rfl⟩ | ⟨rfl, rfl⟩ | ⟨rfl, rfl⟩ | ⟨rfl, rfl⟩ | ⟨rfl, rfl⟩ | ⟨rfl, rfl⟩ | ⟨rfl, rfl⟩ | ⟨rfl, rfl⟩ | ⟨rfl, rfl⟩ | ⟨rfl, rfl⟩ | ⟨rfl, rfl⟩
  · exact ⟨"r", .head _, by decide +kernel, by decide +kernel, by decide, by decide, by decide +kernel, by decide +kernel⟩
  · exact ⟨"rrr", .tail _ (.head _), by decide +kernel, by decide +kernel, by decide, by decide, by decide +kernel, by decide +kernel⟩
  · exact ⟨"rrr", .tail _ (.tail _ (.head _)), by decide +kernel, by decide +kernel, by decide, by decide, by decide +kernel, by decide +kernel⟩
  · exact ⟨"l", .tail _ (.tail _ (.tail _ (.head _))), by decide +kernel, by decide +kernel, by decide, by decide, by decide +kernel, by decide +kernel⟩
  · exact ⟨"rr", .tail _ (.tail _ (.tail _ (.tail _ (.head _)))), by decide +kernel, by decide +kernel, by decide, by decide, by decide +kernel, by decide +kernel⟩
  · exact ⟨"r", .tail _ (.tail _ (.tail _ (.tail _ (.tail _ (.head _))))), by decide +kernel, by decide +kernel, by decide, by decide, by decide +kernel, by decide +kernel⟩
  · exact ⟨"r", .tail _ (.tail _ (.tail _ (.tail _ (.tail _ (.tail _ (.head _)))))), by decide +kernel, by decide +kernel, by decide, by decide, by decide +kernel, by decide +kernel⟩
  · exact ⟨"s", .tail _ (.tail _ (.tail _ (.tail _ (.tail _ (.tail _ (.tail _ (.head _))))))), by decide +kernel, by decide +kernel, by decide, by decide, by decide +kernel, by decide +kernel⟩
  · exact ⟨"r", .tail _ (.tail _ (.tail _ (.tail _ (.tail _ (.tail _ (.tail _ (.tail _ (.head _)))))))), by decide +kernel, by decide +kernel, by decide, by decide, by decide +kernel, by decide +kernel⟩
  · exact ⟨"r", .tail _ (.tail _ (.tail _ (.tail _ (.tail _ (.tail _ (.tail _ (.tail _ (.tail _ (.head _))))))))), by decide +kernel, by decide +kernel, by decide, by decide, by decide +kernel, by decide +kernel⟩
  · exact ⟨"l", .tail _ (.tail _ (.tail _ (.tail _ (.tail _ (.tail _ (.tail _ (.tail _ (.tail _ (.tail _ (.head _)))))))))), by decide +kernel, by decide +kernel, by decide, by decide, by decide +kernel, by decide +kernel⟩
theorem thD_flat {t : Thg} : (thD t).flat = false := by cases t <;> rfl
theorem bar_len : (" | " : Str).length = 3 := by decide +kernel
def F_paper_text : List D → (D → Prop) → Prop := fun ds k => ∃ (u : Str) (T : List Thg), ds = [pprD u T] ∧ (shp u (T.map thC) ∧ ∀ t, t ∈ T → thOk t) ∧ k (.str (pprT u T))
set_option maxHeartbeats 0 in
theorem ok_paper_text {f : Addr} {fd : FuncData} (Fn : FunD K "paper_text" "paper_text" (defArgs s_paper_text) (defBody s_paper_text) (defScope s_paper_text) [] [] f fd) (T0 : Txt mg) (SH : DicV K w mg "SHAPES" shpKV) {f1 f2 f3 : Addr} {fd1 fd2 fd3 : FuncData} (WR : DicV K w mg "WRITERS" [("r", fnD f1), ("l", fnD f2), ("s", fnD f3)]) (V1 : FnV P w K mg base 3 p_row_text f1 fd1 F_row_text) (V2 : FnV P w K mg base 3 p_rows_text f2 fd2 F_rows_text) (V3 : FnV P w K mg base 3 p_parts_text f3 fd3 F_parts_text) : FnOk P w K mg base CX0 4 f fd p_paper_text (spP K F_paper_text) := by
  refine fun_okP Fn sc_paper_text (fun ds q ⟨_, _, e, _⟩ => by rw [e]; rfl) fun cdv A outer s H E hr ds k hF => ?_
  obtain ⟨u, T, rfl, ⟨hsh, hT⟩, hk⟩ := hF
  obtain ⟨z, hz, ez, ul, cl3, _, _, _⟩ := shp_kv hsh
  rw [List.length_map] at cl3
  have nd := sc_paper_text.nd
  refine sv_norm (ss' := [.par (.tup (.str u :: T.map thD)), .no, .no, .no, .no]) (by rfl) ?_
  refine sv_cons (sSet 1 nd <| eLst <| av_nil ⟨[], rfl, by decide, rfl, rfl, ?_⟩)
  refine sv_norm (ss' := [.par (.tup (.str u :: T.map thD)), .own (.lst []), .no, .no, .no]) (by rfl) ?_
  refine sv_cons (sFor [2, 3, 4] <| wZipXT T0.zip <| eIxG SH <| eIx <| vP 0 (d := .tup (.str u :: T.map thD)) <| ev_int ⟨.str u, atI_head, rfl, .str z, hz, eCutT <| vP 0 (d := .tup (.str u :: T.map thD)) <| ev_int ⟨.str u, T.map thD, rfl, rfl, _, rfl, by rw [ez, List.length_map, List.length_map], fun i s => s = [.par (.tup (.str u :: T.map thD)), .own (.lst (((T.take i).map thT).map D.str)), .no, .no, .no], rfl, ?_, ?_⟩⟩)
  · rintro i el s hel rfl
    obtain ⟨pr, hpr, rfl⟩ := els_get hel
    obtain ⟨hc, hd⟩ := List.getElem?_zip_eq_some.mp hpr
    obtain ⟨c, dd⟩ := pr
    rw [List.getElem?_map] at hd
    obtain ⟨t, ht, rfl⟩ := Option.map_eq_some_iff.mp hd
    rw [ez, List.getElem?_map, ht] at hc
    cases hc
    dsimp only
    rw [it_sub thD_flat]
    have hok := hT t (List.mem_of_getElem? ht)
    have hl : ((T.take i).map thT).length < 1000000 := by rw [List.length_map, List.length_take]; omega
    have en : ((T.take (i + 1)).map thT).map D.str = ((T.take i).map thT).map D.str ++ [.str (thT t)] := by
      rw [take_next ht, List.map_append, List.map_append]; rfl
    refine gTwo 2 3 nd ?_
    cases t with
    | r l =>
      have er : (⟨#[114]⟩ : Str) = "r" := by decide +kernel
      refine sv_norm (ss' := [.par (.tup (.str u :: T.map thD)), .own (.lst (((T.take i).map thT).map D.str)), .own (.str ⟨#[114]⟩), .view (.v 0) (rowD l), .no]) (by rfl) ?_
      refine sv_cons (sSet 4 nd <| eIxG WR <| nm 2 ⟨_, by rw [er]; exact .head _, rfl, rfl, ?_⟩)
      refine sv_norm (ss' := [.par (.tup (.str u :: T.map thD)), .own (.lst (((T.take i).map thT).map D.str)), .own (.str ⟨#[114]⟩), .view (.v 0) (rowD l), .own (fnD f1)]) (by rfl) ?_
      refine sv_cons (s1_expr (eApp 1 <| cCallV 4 V1 hr (by decide) <| av_cons <| nm 3 <| av_nil ⟨l, rfl, nm_rw hok, _, _, rfl, rfl, by rw [List.length_map]; exact hl, ?_⟩))
      refine sv_forget [2, 3, 4] (sv_nil ?_)
      rw [en]
      rfl
    | l R =>
      have er : (⟨#[108]⟩ : Str) = "l" := by decide +kernel
      refine sv_norm (ss' := [.par (.tup (.str u :: T.map thD)), .own (.lst (((T.take i).map thT).map D.str)), .own (.str ⟨#[108]⟩), .view (.v 0) (tabD R), .no]) (by rfl) ?_
      refine sv_cons (sSet 4 nd <| eIxG WR <| nm 2 ⟨_, by rw [er]; exact .tail _ (.head _), rfl, rfl, ?_⟩)
      refine sv_norm (ss' := [.par (.tup (.str u :: T.map thD)), .own (.lst (((T.take i).map thT).map D.str)), .own (.str ⟨#[108]⟩), .view (.v 0) (tabD R), .own (fnD f2)]) (by rfl) ?_
      refine sv_cons (s1_expr (eApp 1 <| cCallV 4 V2 hr (by decide) <| av_cons <| nm 3 <| av_nil ⟨R, rfl, ⟨hok.2.1, hok.2.2⟩, _, _, rfl, rfl, by rw [List.length_map]; exact hl, ?_⟩))
      refine sv_forget [2, 3, 4] (sv_nil ?_)
      rw [en]
      rfl
    | s L =>
      have er : (⟨#[115]⟩ : Str) = "s" := by decide +kernel
      refine sv_norm (ss' := [.par (.tup (.str u :: T.map thD)), .own (.lst (((T.take i).map thT).map D.str)), .own (.str ⟨#[115]⟩), .view (.v 0) (.lst (L.map prtD)), .no]) (by rfl) ?_
      refine sv_cons (sSet 4 nd <| eIxG WR <| nm 2 ⟨_, by rw [er]; exact .tail _ (.tail _ (.head _)), rfl, rfl, ?_⟩)
      refine sv_norm (ss' := [.par (.tup (.str u :: T.map thD)), .own (.lst (((T.take i).map thT).map D.str)), .own (.str ⟨#[115]⟩), .view (.v 0) (.lst (L.map prtD)), .own (fnD f3)]) (by rfl) ?_
      refine sv_cons (s1_expr (eApp 1 <| cCallV 4 V3 hr (by decide) <| av_cons <| nm 3 <| av_nil ⟨L, rfl, hok, _, _, rfl, rfl, by rw [List.length_map]; exact hl, ?_⟩))
      refine sv_forget [2, 3, 4] (sv_nil ?_)
      rw [en]
      rfl
  rintro s rfl
  have el : ((z.cps.toList.zip (T.map thD)).map fun p => El.two (.own (.str ⟨#[p.1]⟩)) (it 1 (.view (.v 0) (.tup (T.map thD))) p.2)).length = T.length := by
    rw [List.length_map, List.length_zip, ez, List.length_map, List.length_map, Nat.min_self]
  have e2 : ∀ n, n = T.length → ((T.take n).map thT).map D.str = (T.map thT).map D.str := fun n h => by rw [h, List.take_length]
  have s1 : ((T.map thT).map (·.length)).sum + (T.map thT).length * (" | " : Str).length ≤ 661479 := by
    rw [bar_len]
    exact lst_sum (B := 220490) (m := 3) (q := 3) (fun y hy => by
      obtain ⟨t, ht, rfl⟩ := List.mem_map.mp hy
      exact th_len (hT t ht)) (by rw [List.length_map]; exact cl3)
  have bl : (" " : Str).length = 1 := blank_len
  refine sv_norm (ss' := [.par (.tup (.str u :: T.map thD)), .own (.lst ((T.map thT).map D.str)), .no, .no, .no]) (by rw [← e2 _ el]; rfl) ?_
  refine sv_one (s1_ret <| eAdd <| eFsTC <| eIx <| vP 0 (d := .tup (.str u :: T.map thD)) <| ev_int ⟨.str u, atI_head, rfl, by omega, by rw [strLen_append, bl]; omega, eJoin <| ev_str <| nm 1 ⟨T.map thT, rfl, Nat.le_trans s1 (by decide), ?_, _, rfl, hk⟩⟩)
  have j1 : (Txt.join " | " (T.map thT)).length ≤ 661479 := Nat.le_trans join_le s1
  rw [strLen_append, bl]
  omega
end
end K79
namespace K79
open PySem PySem.Spec PyProof.Rows L2 DL K03
section
variable {P : Program} {w : World} {K : PySem.W.Frag} {mg : Str → Option Value} {base : Heap}
theorem fig_mem {c : Nat} : c ∈ ("0123456789" : Str).cps.toList ↔ 48 ≤ c ∧ c ≤ 57 := by
  rw [show ("0123456789" : Str).cps.toList = [48, 49, 50, 51, 52, 53, 54, 55, 56, 57] by decide +kernel]
  constructor
  · intro h
    simp only [List.mem_cons, List.not_mem_nil, or_false] at h
    omega
  · intro h
    have : c = 48 ∨ c = 49 ∨ c = 50 ∨ c = 51 ∨ c = 52 ∨ c = 53 ∨ c = 54 ∨ c = 55 ∨ c = 56 ∨ c = 57 := by omega
    simpa using this
theorem fig_all {t : Str} : ((t.cps.toList.map fun c => decide (c ∈ ("0123456789" : Str).cps.toList)).all id) = true ↔ NumText.AllDigits t.cps.toList := by
  rw [List.all_eq_true]
  constructor
  · intro h c hc
    exact fig_mem.mp (of_decide_eq_true (h _ (List.mem_map.mpr ⟨c, hc, rfl⟩)))
  · intro h b hb
    obtain ⟨c, hc, rfl⟩ := List.mem_map.mp hb
    exact decide_eq_true (fig_mem.mpr (h c hc))
theorem str0 {t : Str} : t = "" ↔ t.cps.toList = [] := ⟨fun h => by rw [h]; rfl, fun h => str_ext h⟩
theorem str48 {t : Str} : t = "0" ↔ t.cps.toList = [48] := ⟨fun h => by rw [h]; decide +kernel, fun h => str_ext (by rw [h]; decide +kernel)⟩
theorem sgn_eq {c d : Nat} : ((⟨#[c]⟩ : Str) = ⟨#[d]⟩) ↔ c = d := ⟨fun h => by
  have : (⟨#[c]⟩ : Str).cps.toList = (⟨#[d]⟩ : Str).cps.toList := by rw [h]
  exact (List.cons.inj this).1, fun h => by rw [h]⟩
def F_read_count (K : PySem.W.Frag) : FX := fun ds kn kx => ∃ t : Str, ds = [.str t] ∧ t.length ≤ 100000 ∧ (okC t → kn (.int ((cntV t : Nat) : Int))) ∧ (¬ okC t → kx ⟨He.ga K "NoText", [], []⟩)
set_option maxHeartbeats 0 in
theorem ok_read_count {f : Addr} {fd : FuncData} (Fn : FunD K "read_count" "read_count" (defArgs s_read_count) (defBody s_read_count) (defScope s_read_count) [] [] f fd) (T : Txt mg) (XN : ExK K mg "NoText" (He.ga K "NoText")) (GF : GloD K mg "FIGURES" (.str "0123456789")) (GM : GloD K mg "MOST_FIGURES" (.int 40)) : FnOk P w K mg base (L2.CX P w) 1 f fd p_read_count (spX K (F_read_count K)) := by
  refine fun_okX Fn sc_read_count (fun ds q r ⟨_, e, _⟩ => by rw [e]; rfl) fun cdv A outer s H E hr ds k r hF => ?_
  obtain ⟨t, rfl, hl, hk, hx⟩ := hF
  have nd := sc_read_count.nd
  have ln := TL.len_tl t
  refine svx_consI (fun s => s = [.par (.str t), .no] ∧ (t.cps.toList ≠ [] ∧ t.length ≤ 40) ∧ (t.cps.toList.head? = some 48 → t.cps.toList = [48])) ?_ ?_
  · refine s1x_if <| tv_w <| wv_or <| tEq <| nm 0 <| ev_str ⟨fun z => tT (svx_one <| s1x_raise rfl <| mk_text XN (hx fun ok => ok.1.1 (str0.mp (of_decide_eq_true z)))), fun z0 => ?_⟩
    have ne : t.cps.toList ≠ [] := fun z => of_decide_eq_false z0 (str0.mpr z)
    refine wv_or <| tGt <| eLenS T.len <| nm 0 ⟨by omega, ev_glo rfl GM ⟨fun z => tT (svx_one <| s1x_raise rfl <| mk_text XN (hx fun ok => ?_)), fun z1 => ?_⟩⟩
    · have := of_decide_eq_true z
      have := ok.1.2
      omega
    have l40 : t.length ≤ 40 := by have := of_decide_eq_false z1; omega
    obtain ⟨c, l, hc⟩ : ∃ c l, t.cps.toList = c :: l := by
      cases e : t.cps.toList with
      | nil => exact absurd e ne
      | cons c l => exact ⟨c, l, rfl⟩
    have h48 : ("0" : Str) = ⟨#[48]⟩ := by decide +kernel
    refine wv_or1 <| tv_w <| wv_and <| tEq <| eIxS <| nm 0 <| ev_int ⟨c, ⟨by omega, by rw [hc]; exact atI_head⟩, ev_str ⟨fun z2 => wv_and1 <| tNe <| nm 0 <| ev_str ⟨fun z => svx_one <| s1x_raise rfl <| mk_text XN (hx fun ok => ?_), fun z => svx_nil ⟨rfl, ⟨ne, l40⟩, fun _ => ?_⟩⟩, fun z2 => ⟨fun z => (nomatch z), fun _ => svx_nil ⟨rfl, ⟨ne, l40⟩, fun hh => ?_⟩⟩⟩⟩
    · have z2 := of_decide_eq_true z2
      rw [h48, sgn_eq] at z2
      have z3 := ok.2.1 (by rw [hc, z2]; rfl)
      rw [decide_eq_true (str48.mpr z3)] at z
      cases z
    · have : decide (t = "0") = true := by simpa using z
      exact str48.mp (of_decide_eq_true this)
    · rw [hc] at hh
      have hh : c = 48 := Option.some.inj hh
      rw [h48, hh] at z2
      simp at z2
  rintro s ⟨rfl, h1, h2⟩
  refine svx_cons (s1x_if <| tv_not <| tVal <| eAll T.all rfl <| eLc [("sign", 1)] nd (blkOk_by (N := n_read_count) (sc := defScope s_read_count) (by decide +kernel)) <| wStr <| nm 0 ⟨fun i s acc => s = [.par (.str t), .no] ∧ acc = ((t.cps.toList.take i).map fun c => decide (c ∈ ("0123456789" : Str).cps.toList)).map D.bl, ⟨rfl, rfl⟩, ?_, ?_⟩)
  · rintro i el s acc hel ⟨rfl, rfl⟩ s0 H0 C0 cl fp
    obtain ⟨c, hc, rfl⟩ := els_get hel
    have hin := getElem?_lt hc
    refine gOne 1 nd fun s0 H0 C0 cl fp => tsv_nil ⟨fun _ s0 H0 C0 cl fp => eInC <| nm 1 <| ev_glo rfl GF ⟨c, rfl, _, rfl, ?_, rfl, ?_⟩, fun z => (nomatch z)⟩
    · rw [List.length_map, List.length_map, List.length_take]
      have : t.cps.toList.length = t.length := ln.symm
      omega
    · rw [take_next hc, List.map_append, List.map_append]
      rfl
  rintro s acc ⟨rfl, rfl⟩
  rw [List.length_map, List.take_length]
  refine ⟨_, rfl, fun z => svx_one <| s1x_raise rfl <| mk_text XN (hx fun ok => ?_), fun z => ?_⟩
  · rw [fig_all.mpr ok.2.2] at z
    cases z
  have ok : okC t := ⟨h1, h2, fig_all.mp (by simpa using z)⟩
  exact svx_nil (svx_one <| s1x_ret <| evx_ev <| eIntS T.int <| nm 0 ⟨_, int_ok ok, by omega, _, rfl, hk ok⟩)
def F_read_fraction (K : PySem.W.Frag) : FX := fun ds kn kx => ∃ t : Str, ds = [.str t] ∧ t.length ≤ 100000 ∧ (∀ x, Frac t x → kn (fq x)) ∧ ((∀ x, ¬ Frac t x) → kx ⟨He.ga K "NoText", [], []⟩)
set_option maxHeartbeats 0 in
theorem ok_read_fraction {f : Addr} {fd : FuncData} (Fn : FunD K "read_fraction" "read_fraction" (defArgs s_read_fraction) (defBody s_read_fraction) (defScope s_read_fraction) [] [] f fd) (T : Txt mg) (XN : ExK K mg "NoText" (He.ga K "NoText")) {f1 f2 : Addr} {fd1 fd2 : FuncData} (RC : DefX P w K mg base 1 "read_count" p_read_count f1 fd1 [] (F_read_count K)) (LO : DefAt P w K mg base CX0 2 "lowest" p_lowest f2 fd2 [] F_lowest) : FnOk P w K mg base (L2.CX P w) 3 f fd p_read_fraction (spX K (F_read_fraction K)) := by
  refine fun_okX Fn sc_read_fraction (fun ds q r ⟨_, e, _⟩ => by rw [e]; rfl) fun cdv A outer s H E hr ds k r hF => ?_
  obtain ⟨t, rfl, hl, hk, hx⟩ := hF
  have nd := sc_read_fraction.nd
  have hu := hr.units
  have cl : (cutS t (some (if neg t = true then 1 else 0)) none).length ≤ 100000 := Nat.le_trans (cutS_length _ _ _) hl
  have p640 : (2 : Nat) ^ 160 < 2 ^ 1000 := by decide +kernel
  -- the last part
  have fin : ∀ (a m b : Str) (n d : Nat), (∀ x : Rat, x = Rat.divInt (if neg t = true then -(n : Int) else n) d → Nat.gcd n d = 1 → Frac t x) → (Nat.gcd n d ≠ 1 → ∀ x, ¬ Frac t x) → d ≠ 0 → d < 2 ^ 160 → SVX (cxOf (L2.CX P w) P w K mg base n_read_fraction "read_fraction" (defScope s_read_fraction) f cdv A outer s H E) H [] ((defBody s_read_fraction).drop 5) [.par (.str t), .own (.str a), .own (.str m), .own (.str b), .own (.int (n : Int)), .own (.int (d : Int)), .no] [] { nx := fun _ => k .non, rt := fun _ r => ∃ d, r = .own d ∧ k d } (fun y _ => r y) := fun a m b n d y1 y2 hd hd2 => by
    obtain ⟨p, ep⟩ : ∃ p : Int, (if neg t = true then -(n : Int) else (n : Int)) = p := ⟨_, rfl⟩
    rw [ep] at y1
    have pg : Int.gcd p (d : Int) = Nat.gcd n d := by
      rw [← ep]
      unfold Int.gcd
      split
      · rw [Int.natAbs_neg]; rfl
      · rfl
    have go : SVX (cxOf (L2.CX P w) P w K mg base n_read_fraction "read_fraction" (defScope s_read_fraction) f cdv A outer s H E) H [] ((defBody s_read_fraction).drop 6) [.par (.str t), .own (.str a), .own (.str m), .own (.str b), .own (.int (n : Int)), .own (.int (d : Int)), .own (.tup [.int p, .int (d : Int)])] [] { nx := fun _ => k .non, rt := fun _ r => ∃ d, r = .own d ∧ k d } (fun y _ => r y) := by
      refine svx_cons (s1x_if <| tNeP hu <| cCall LO hr (by decide) <| av_cons <| eIx <| nm 6 <| ev_int ⟨_, rfl, rfl, av_cons <| eIx <| nm 6 <| ev_int ⟨_, rfl, rfl, av_nil ⟨p, (d : Int), rfl, ⟨by omega, ?_⟩, nm 6 ⟨rfl, rfl, fun z => svx_one <| s1x_raise rfl <| mk_text XN (hx (y2 fun hg => ?_)), fun z => svx_nil ?_⟩⟩⟩⟩)
      · rw [Int.natAbs_natCast]
        exact Nat.lt_trans hd2 (Nat.pow_lt_pow_right (by decide) (by decide))
      · have e := fq_is (p := p) (q := (d : Int)) (a := p) (b := (d : Int)) (by omega) (by omega) (by rw [pg, hg]) rfl
        rw [e, deq_self] at z
        cases z
      · have z : deq (fq (Rat.divInt p (d : Int))) (.tup [.int p, .int (d : Int)]) = true := by simpa using z
        have e := deq_iff.mp z
        have hg : Nat.gcd n d = 1 := by
          unfold fq at e
          injection e with e
          injection e with e1 e2
          injection e2 with e2 _
          injection e1 with e1
          injection e2 with e2
          have rd := (Rat.divInt p (d : Int)).reduced
          unfold Nat.Coprime at rd
          rw [← pg]
          unfold Int.gcd
          rw [e1, Int.ofNat_inj.mp e2] at rd
          exact rd
        refine svx_one <| s1x_ret <| evx_ev <| nm 6 ⟨_, rfl, ?_⟩
        rw [← e]
        exact hk _ (y1 _ rfl hg)
    refine svx_cons (s1x_s1 (sSet 6 nd <| dTup <| av_cons <| ev_if <| tVal <| eStarts <| nm 0 <| ev_str ⟨fun z => eNeg <| nm 4 (av_cons <| nm 5 <| av_nil ⟨rfl, rfl, rfl, ?_⟩), fun z => nm 4 (av_cons <| nm 5 <| av_nil ⟨rfl, rfl, rfl, ?_⟩)⟩))
    · rw [starts_neg] at z
      rw [if_pos z] at ep
      rw [ep]
      exact svx_norm (ss' := [.par (.str t), .own (.str a), .own (.str m), .own (.str b), .own (.int (n : Int)), .own (.int (d : Int)), .own (.tup [.int p, .int (d : Int)])]) (by rfl) go
    · rw [starts_neg] at z
      rw [if_neg (by rw [z]; decide)] at ep
      rw [← ep] at go
      exact svx_norm (by rfl) go
  refine svx_cons (s1x_s1 (s1_asg (as := [1, 2, 3]) (ePart <| eSlFrom <| nm 0 <| eIntB T.int <| eEq <| eSlTo <| nm 0 <| ev_int ⟨by omega, ev_str ⟨by omega, ev_str ⟨⟨by decide +kernel, ?_⟩, gv_tup rfl rfl <| gs_cons <| gOne 1 nd <| gs_cons <| gOne 2 nd <| gs_cons <| gOne 3 nd <| gs_nil ?_⟩⟩⟩) (by decide)))
  · rw [cut_neg]
    omega
  rw [cut_neg]
  obtain ⟨Q, eQ⟩ : ∃ Q, Txt.partition (cutS t (some (if neg t = true then 1 else 0)) none) "/" = Q := ⟨_, rfl⟩
  rw [eQ]
  refine svx_norm (ss' := [.par (.str t), .own (.str Q.1), .own (.str Q.2.1), .own (.str Q.2.2), .no, .no, .no]) (by rfl) ?_
  have sne : (!decide (("/" : Str) = ("" : Str))) = true := by decide +kernel
  have see : (!decide ((Str.empty : Str) = ("" : Str))) = false := by decide +kernel
  rcases part_two (cutS t (some (if neg t = true then 1 else 0)) none) with ⟨a, b, e, la, lb⟩ | e
  · rw [e] at eQ
    subst eQ
    have hno : (okC a → ¬ okC b) → ∀ x, ¬ Frac t x := fun z x hf => by
      cases hf with
      | whole hp ok => rw [e] at hp; injection hp with _ hp; injection hp with hp _; exact slash_ne hp
      | part hp ok ok2 => rw [e] at hp; injection hp with h1 hp; injection hp with _ h2; subst h1 h2; exact z ok ok2
    refine svx_cons <| s1x_set (i := 4) nd rfl (.inl rfl) (fun z => nomatch z) rfl <| xCall RC hr (by decide) <| av_cons <| nm 1 <| av_nil ⟨a, rfl, by omega, fun ok => ⟨rfl, rfl, ?_⟩, fun no => hx (hno fun z => absurd z no)⟩
    refine svx_cons (s1x_s1 (sSet 5 nd <| ev_int ⟨rfl, rfl, ?_⟩))
    refine svx_norm (ss' := [.par (.str t), .own (.str a), .own (.str "/"), .own (.str b), .own (.int (cntV a : Int)), .own (.int 1), .no]) (by rfl) ?_
    refine svx_cons (s1x_if <| tNe <| nm 2 <| ev_str ⟨fun _ => svx_one <| s1x_set (i := 5) nd rfl (.inl rfl) (fun z => nomatch z) rfl <| xCall RC hr (by decide) <| av_cons <| nm 3 <| av_nil ⟨b, rfl, by omega, fun ok2 => ⟨rfl, rfl, ?_⟩, fun no => hx (hno fun _ => no)⟩, fun z => (by rw [sne] at z; cases z)⟩)
    refine svx_norm (ss' := [.par (.str t), .own (.str a), .own (.str "/"), .own (.str b), .own (.int (cntV a : Int)), .own (.int (cntV b : Int)), .no]) (by rfl) ?_
    have bad : (2 ≤ cntV b → t = "-0") → ∀ x, ¬ Frac t x := fun z x hf => by
      cases hf with
      | whole hp ok => rw [e] at hp; injection hp with _ hp; injection hp with hp _; exact slash_ne hp
      | part hp ok ok2 e1 e2 hd h0 => rw [e] at hp; injection hp with h1 hp; injection hp with _ h2; subst h1 h2 e1 e2; exact h0 (z hd)
    refine svx_cons (s1x_if <| tv_w <| wv_or <| tv_w <| wv_and <| tNe <| nm 2 <| ev_str ⟨fun _ => wv_and1 <| tLt <| nm 5 <| ev_int ⟨fun z => tT (svx_one <| s1x_raise rfl <| mk_text XN (hx (bad fun h2 => ?_))), fun z1 => wv_or1 <| tEq <| nm 0 <| ev_str ⟨fun z => svx_one <| s1x_raise rfl <| mk_text XN (hx (bad fun _ => of_decide_eq_true z)), fun z2 => svx_nil ?_⟩⟩, fun z => (by rw [sne] at z; cases z)⟩)
    · have := of_decide_eq_true z
      omega
    have hd : 2 ≤ cntV b := by have := of_decide_eq_false z1; omega
    have h0 : t ≠ "-0" := of_decide_eq_false z2
    refine fin a "/" b (cntV a) (cntV b) (fun x ex hg => ?_) (fun hg x hf => ?_) (by omega) (cntV_lt ok2)
    · rw [ex]
      exact Frac.part e ok ok2 rfl rfl hd h0 hg
    · cases hf with
      | whole hp ok => rw [e] at hp; injection hp with _ hp; injection hp with hp _; exact slash_ne hp
      | part hp ok ok2 e1 e2 hd h0 hg2 => rw [e] at hp; injection hp with h1 hp; injection hp with _ h2; subst h1 h2 e1 e2; exact hg hg2
  · rw [e] at eQ
    subst eQ
    obtain ⟨a, ea⟩ : ∃ a, cutS t (some (if neg t = true then 1 else 0)) none = a := ⟨_, rfl⟩
    rw [ea] at e cl
    have hw : ∀ {x}, Frac t x → okC a ∧ t ≠ "-0" := fun {x} hf => by
      cases hf with
      | whole hp ok e1 h0 => rw [ea, e] at hp; injection hp with h1 hp; subst h1; exact ⟨ok, h0⟩
      | part hp ok ok2 => rw [ea, e] at hp; injection hp with _ hp; injection hp with hp _; exact absurd hp.symm slash_ne
    rw [ea]
    refine svx_cons <| s1x_set (i := 4) nd rfl (.inl rfl) (fun z => nomatch z) rfl <| xCall RC hr (by decide) <| av_cons <| nm 1 <| av_nil ⟨a, rfl, by omega, fun ok => ⟨rfl, rfl, ?_⟩, fun no => hx (fun x hf => no (hw hf).1)⟩
    refine svx_cons (s1x_s1 (sSet 5 nd <| ev_int ⟨rfl, rfl, ?_⟩))
    refine svx_norm (ss' := [.par (.str t), .own (.str a), .own (.str Str.empty), .own (.str Str.empty), .own (.int (cntV a : Int)), .own (.int ((1 : Nat) : Int)), .no]) (by rfl) ?_
    refine svx_cons (s1x_if <| tNe <| nm 2 <| ev_str ⟨fun z => (by rw [see] at z; cases z), fun z => svx_nil ?_⟩)
    refine svx_cons (s1x_if <| tv_w <| wv_or <| tv_w <| wv_and <| tNe <| nm 2 <| ev_str ⟨fun z => (by rw [see] at z; cases z), fun _ => tF (wv_or1 <| tEq <| nm 0 <| ev_str ⟨fun z => svx_one <| s1x_raise rfl <| mk_text XN (hx fun x hf => (hw hf).2 (of_decide_eq_true z)), fun z2 => svx_nil ?_⟩)⟩)
    refine fin a Str.empty Str.empty (cntV a) 1 (fun x ex _ => ?_) (fun hg x hf => absurd (Nat.gcd_one_right _) hg) (by decide) (by decide)
    rw [ex]
    exact Frac.whole (by rw [ea]; exact e) ok rfl (of_decide_eq_false z2)
def F_read_row : List D → (D → Prop) → Prop := fun ds k => ∃ r : List Rat, ds = [.str (rowT r)] ∧ (r ≠ [] ∧ r.length ≤ 40 ∧ ∀ x, x ∈ r → Nm x) ∧ k (rowD r)
theorem ok_read_row {f : Addr} {fd : FuncData} (Fn : FunD K "read_row" "read_row" (defArgs s_read_row) (defBody s_read_row) (defScope s_read_row) [] [] f fd) {f1 : Addr} {fd1 : FuncData} (RF : DefX P w K mg base 3 "read_fraction" p_read_fraction f1 fd1 [] (F_read_fraction K)) : FnOk P w K mg base CX0 4 f fd p_read_row (spP K F_read_row) := by
  refine fun_okP Fn sc_read_row (fun ds q ⟨_, e, _⟩ => by rw [e]; rfl) fun cdv A outer s H E hr ds k hF => ?_
  obtain ⟨r, rfl, ⟨hn, hl, hm⟩, hk⟩ := hF
  have nd := sc_read_row.nd
  have len := rowT_len (m := 40) (fun x hx => (hm x hx).sz) hl
  have es := split_row hn
  refine sv_one (s1_ret <| eLc [("word", 1)] nd (blkOk_by (N := n_read_row) (sc := defScope s_read_row) (by decide +kernel)) <| wLst <| eSplit <| nm 0 <| ev_str ⟨⟨by decide +kernel, by omega⟩, _, rfl, flat_map fun _ => rfl, fun i s acc => s = [.par (.str (rowT r)), .no] ∧ acc = (r.take i).map fq, ⟨rfl, rfl⟩, ?_, ?_⟩)
  · rintro i el s acc hel ⟨rfl, rfl⟩ s0 H0 C0 cl fp
    rw [es] at hel
    obtain ⟨t, ht, rfl⟩ := els_get2 hel
    rw [List.getElem?_map] at ht
    obtain ⟨x, hx, rfl⟩ := Option.map_eq_some_iff.mp ht
    have hin := getElem?_lt hx
    have nx := hm x (List.mem_of_getElem? hx)
    have fr := frac_num nx.top nx.bot
    have tl := numT_len nx.sz
    refine gOne 1 nd fun s0 H0 C0 cl fp => tsv_nil ⟨fun _ s0 H0 C0 cl fp => cCall RF.plain hr (by decide) <| av_cons <| nm 1 <| av_nil ⟨numT x, rfl, by omega, fun y hy => ?_, fun no => absurd fr (no x)⟩, fun z => (nomatch z)⟩
    have e := hy.uniq fr
    subst e
    exact ⟨_, rfl, by rw [List.length_map, List.length_take]; omega, rfl, by rw [take_next hx, List.map_append]; rfl⟩
  rintro s acc ⟨rfl, rfl⟩
  rw [es, List.length_map, List.length_map, List.length_map, List.take_length]
  exact ⟨_, rfl, hk⟩
end
end K79
namespace K79
open PySem PySem.Spec PyProof.Rows L2 DL K03
section
variable {P : Program} {w : World} {K : PySem.W.Frag} {mg : Str → Option Value} {base : Heap}
def F_read_rows : List D → (D → Prop) → Prop := fun ds k => ∃ R : List (List Rat), ds = [.str (tabT R)] ∧ (R ≠ [] ∧ R.length ≤ 10 ∧ ∀ r, r ∈ R → Rw r) ∧ k (tabD R)
theorem ok_read_rows {f : Addr} {fd : FuncData} (Fn : FunD K "read_rows" "read_rows" (defArgs s_read_rows) (defBody s_read_rows) (defScope s_read_rows) [] [] f fd) {f1 : Addr} {fd1 : FuncData} (RR : DefAt P w K mg base CX0 4 "read_row" p_read_row f1 fd1 [] F_read_row) : FnOk P w K mg base CX0 5 f fd p_read_rows (spP K F_read_rows) := by
  refine fun_okP Fn sc_read_rows (fun ds q ⟨_, e, _⟩ => by rw [e]; rfl) fun cdv A outer s H E hr ds k hF => ?_
  obtain ⟨R, rfl, ⟨hn, h5, hm⟩, hk⟩ := hF
  have nd := sc_read_rows.nd
  have len := tabs_len hm h5
  have es := split_tab hn
  refine sv_one (s1_ret <| eLc [("part", 1)] nd (blkOk_by (N := n_read_rows) (sc := defScope s_read_rows) (by decide +kernel)) <| wLst <| eSplit <| nm 0 <| ev_str ⟨⟨by decide +kernel, by omega⟩, _, rfl, flat_map fun _ => rfl, fun i s acc => s = [.par (.str (tabT R)), .no] ∧ acc = (R.take i).map rowD, ⟨rfl, rfl⟩, ?_, ?_⟩)
  · rintro i el s acc hel ⟨rfl, rfl⟩ s0 H0 C0 cl fp
    rw [es] at hel
    obtain ⟨t, ht, rfl⟩ := els_get2 hel
    rw [List.getElem?_map] at ht
    obtain ⟨r, hr0, rfl⟩ := Option.map_eq_some_iff.mp ht
    have hin := getElem?_lt hr0
    have h := hm r (List.mem_of_getElem? hr0)
    exact gOne 1 nd fun s0 H0 C0 cl fp => tsv_nil ⟨fun _ s0 H0 C0 cl fp => cCall RR hr (by decide) <| av_cons <| nm 1 <| av_nil ⟨r, rfl, ⟨h.1, Nat.le_trans h.2.1 (by decide), h.2.2⟩, _, rfl, by rw [List.length_map, List.length_take]; omega, rfl, by rw [take_next hr0, List.map_append]; rfl⟩, fun z => (nomatch z)⟩
  rintro s acc ⟨rfl, rfl⟩
  rw [es, List.length_map, List.length_map, List.length_map, List.take_length]
  exact ⟨_, rfl, hk⟩
def F_read_part : List D → (D → Prop) → Prop := fun ds k => ∃ p : Rat × List Rat, ds = [.str (prtT p)] ∧ (Nm p.1 ∧ Rw p.2) ∧ k (prtD p)
set_option maxHeartbeats 0 in
theorem ok_read_part {f : Addr} {fd : FuncData} (Fn : FunD K "read_part" "read_part" (defArgs s_read_part) (defBody s_read_part) (defScope s_read_part) [] [] f fd) {f1 f2 : Addr} {fd1 fd2 : FuncData} (RF : DefX P w K mg base 3 "read_fraction" p_read_fraction f1 fd1 [] (F_read_fraction K)) (RR : DefAt P w K mg base CX0 4 "read_row" p_read_row f2 fd2 [] F_read_row) : FnOk P w K mg base CX0 5 f fd p_read_part (spP K F_read_part) := by
  refine fun_okP Fn sc_read_part (fun ds q ⟨_, e, _⟩ => by rw [e]; rfl) fun cdv A outer s H E hr ds k hF => ?_
  obtain ⟨p, rfl, ⟨h1, h2⟩, hk⟩ := hF
  have nd := sc_read_part.nd
  have len := prt_len ⟨h1, h2⟩
  have pt := part_prt p
  have fr := frac_num h1.top h1.bot
  have tl := numT_len h1.sz
  refine sv_cons (s1_asg (as := [1, 2, 3]) (ePart <| nm 0 <| ev_str ⟨⟨by decide +kernel, by omega⟩, gv_tup rfl rfl <| gs_cons <| gOne 1 nd <| gs_cons <| gOne 2 nd <| gs_cons <| gOne 3 nd <| gs_nil ?_⟩) (by decide))
  rw [pt]
  refine sv_norm (ss' := [.par (.str (prtT p)), .own (.str (numT p.1)), .own (.str " by "), .own (.str (rowT p.2))]) (by rfl) ?_
  refine sv_one (s1_ret <| dTup <| av_cons <| cCall RF.plain hr (by decide) <| av_cons <| nm 1 <| av_nil ⟨numT p.1, rfl, by omega, fun y hy => ?_, fun no => absurd fr (no p.1)⟩)
  have e := hy.uniq fr
  subst e
  exact av_cons <| cCall RR hr (by decide) <| av_cons <| nm 3 <| av_nil ⟨p.2, rfl, ⟨h2.1, Nat.le_trans h2.2.1 (by decide), h2.2.2⟩, av_nil ⟨rfl, _, rfl, hk⟩⟩
theorem prs_none {L : List (Rat × List Rat)} (h : L ≠ []) : prsT L ≠ "none" := fun z => by
  have e := split_prs h
  rw [z] at e
  have e1 : Txt.split ("none" : Str) "; " = [("none" : Str)] := by decide +kernel
  rw [e1] at e
  cases L with
  | nil => exact h rfl
  | cons p L =>
    have e2 : ("none" : Str) = prtT p := (List.cons.inj e).1
    have e3 := part_prt p
    rw [← e2] at e3
    have e4 : (Txt.partition ("none" : Str) " by ").2.1 = "" := by decide +kernel
    rw [e3] at e4
    exact absurd (show (" by " : Str) = "" from e4) (by decide +kernel)
def F_read_parts : List D → (D → Prop) → Prop := fun ds k => ∃ L : List (Rat × List Rat), ds = [.str (prsT L)] ∧ (L.length ≤ 10 ∧ ∀ p, p ∈ L → Nm p.1 ∧ Rw p.2) ∧ k (.lst (L.map prtD))
set_option maxHeartbeats 0 in
theorem ok_read_parts {f : Addr} {fd : FuncData} (Fn : FunD K "read_parts" "read_parts" (defArgs s_read_parts) (defBody s_read_parts) (defScope s_read_parts) [] [] f fd) {f1 : Addr} {fd1 : FuncData} (RP : DefAt P w K mg base CX0 5 "read_part" p_read_part f1 fd1 [] F_read_part) : FnOk P w K mg base CX0 6 f fd p_read_parts (spP K F_read_parts) := by
  refine fun_okP Fn sc_read_parts (fun ds q ⟨_, e, _⟩ => by rw [e]; rfl) fun cdv A outer s H E hr ds k hF => ?_
  obtain ⟨L, rfl, ⟨h5, hm⟩, hk⟩ := hF
  have nd := sc_read_parts.nd
  have len := prs_len hm h5
  refine sv_norm (ss' := [.par (.str (prsT L)), .no]) (by rfl) ?_
  refine sv_cons (s1_if <| tEq <| nm 0 <| ev_str ⟨fun z => ?_, fun z => sv_nil ?_⟩)
  · have z := of_decide_eq_true z
    by_cases hL : L = []
    · subst hL
      exact sv_one (s1_ret <| eLst <| av_nil ⟨[], rfl, by decide, _, rfl, hk⟩)
    · exact absurd z (prs_none hL)
  have z := of_decide_eq_false z
  have hn : L ≠ [] := fun e => z (by rw [e]; rfl)
  have es := split_prs hn
  refine sv_one (s1_ret <| eLc [("part", 1)] nd (blkOk_by (N := n_read_parts) (sc := defScope s_read_parts) (by decide +kernel)) <| wLst <| eSplit <| nm 0 <| ev_str ⟨⟨by decide +kernel, by omega⟩, _, rfl, flat_map fun _ => rfl, fun i s acc => s = [.par (.str (prsT L)), .no] ∧ acc = (L.take i).map prtD, ⟨rfl, rfl⟩, ?_, ?_⟩)
  · rintro i el s acc hel ⟨rfl, rfl⟩ s0 H0 C0 cl fp
    rw [es] at hel
    obtain ⟨t, ht, rfl⟩ := els_get2 hel
    rw [List.getElem?_map] at ht
    obtain ⟨r, hr0, rfl⟩ := Option.map_eq_some_iff.mp ht
    have hin := getElem?_lt hr0
    have h := hm r (List.mem_of_getElem? hr0)
    exact gOne 1 nd fun s0 H0 C0 cl fp => tsv_nil ⟨fun _ s0 H0 C0 cl fp => cCall RP hr (by decide) <| av_cons <| nm 1 <| av_nil ⟨r, rfl, h, _, rfl, by rw [List.length_map, List.length_take]; omega, rfl, by rw [take_next hr0, List.map_append]; rfl⟩, fun z => (nomatch z)⟩
  rintro s acc ⟨rfl, rfl⟩
  rw [es, List.length_map, List.length_map, List.length_map, List.take_length]
  exact ⟨_, rfl, hk⟩
end
end K79
namespace K79
open PySem PySem.Spec PyProof.Rows L2 DL K03
section
variable {P : Program} {w : World} {K : PySem.W.Frag} {mg : Str → Option Value} {base : Heap}
def F_read_saying : List D → (D → Prop) → Prop := fun ds k => ∃ y : Syg, ds = [.str (syT y)] ∧ syOk y ∧ k (syD y)
abbrev plainD : D := .tup [.str "one", .str "few", .str "alone", .str "wide", .str "level"]
theorem part_ans (l : List Rat) : Txt.partition (("answered " : Str) ++ rowT l) " " = (("answered" : Str), (" " : Str), rowT l) := by
  have e : ("answered " : Str) ++ rowT l = ("answered" : Str) ++ " " ++ rowT l := by
    have : ("answered " : Str) = ("answered" : Str) ++ " " := by decide +kernel
    rw [this]
  rw [e]
  exact TL.partition_app tl_blank (by decide +kernel)
theorem part_plain {u : Str} (h : u ∈ (["one", "few", "alone", "wide", "level"] : List Str)) : Txt.partition u " " = (u, ("" : Str), ("" : Str)) ∧ inV (V.str u) [.str "one", .str "few", .str "alone", .str "wide", .str "level"] = true ∧ u.length ≤ 10 := by
  simp only [List.mem_cons, List.not_mem_nil, or_false] at h
  rcases h with rfl | rfl | rfl | rfl | rfl <;> exact ⟨by decide +kernel, by decide +kernel, by decide +kernel⟩
set_option maxHeartbeats 0 in
theorem ok_read_saying {f : Addr} {fd : FuncData} (Fn : FunD K "read_saying" "read_saying" (defArgs s_read_saying) (defBody s_read_saying) (defScope s_read_saying) [] [] f fd) (GP : GloD K mg "PLAIN_texts" plainD) {f1 : Addr} {fd1 : FuncData} (RR : DefAt P w K mg base CX0 4 "read_row" p_read_row f1 fd1 [] F_read_row) : FnOk P w K mg base CX0 5 f fd p_read_saying (spP K F_read_saying) := by
  refine fun_okP Fn sc_read_saying (fun ds q ⟨_, e, _⟩ => by rw [e]; rfl) fun cdv A outer s H E hr ds k hF => ?_
  obtain ⟨y, rfl, hy, hk⟩ := hF
  have nd := sc_read_saying.nd
  cases y with
  | ans l =>
    have hl := rw_len (l := l) hy
    have al : ("answered " : Str).length = 9 := by decide +kernel
    have pt := part_ans l
    refine sv_norm (ss' := [.par (.str (("answered " : Str) ++ rowT l)), .no, .no, .no]) (by rfl) ?_
    refine sv_cons (s1_asg (as := [1, 2, 3]) (ePart <| nm 0 <| ev_str ⟨⟨by decide +kernel, by rw [strLen_append, al]; omega⟩, gv_tup rfl rfl <| gs_cons <| gOne 1 nd <| gs_cons <| gOne 2 nd <| gs_cons <| gOne 3 nd <| gs_nil ?_⟩) (by decide))
    rw [pt]
    refine sv_norm (ss' := [.par (.str (("answered " : Str) ++ rowT l)), .own (.str "answered"), .own (.str " "), .own (.str (rowT l))]) (by rfl) ?_
    refine sv_cons (s1_if <| tv_w <| wv_and <| tEq <| nm 2 <| ev_str ⟨fun z => absurd (of_decide_eq_true z) (by decide +kernel), fun _ => ⟨fun z => (nomatch z), fun _ => sv_nil ?_⟩⟩)
    refine sv_cons (s1_if <| tNe <| nm 1 <| ev_str ⟨fun z => (by rw [decide_eq_true rfl] at z; cases z), fun _ => sv_nil ?_⟩)
    exact sv_one (s1_ret <| dTup <| av_cons <| nm 1 <| av_cons <| cCall RR hr (by decide) <| av_cons <| nm 3 <| av_nil ⟨l, rfl, ⟨hy.1, Nat.le_trans hy.2.1 (by decide), hy.2.2⟩, av_nil ⟨rfl, _, rfl, hk⟩⟩)
  | wd u =>
    obtain ⟨pt, pin, pl⟩ := part_plain hy
    refine sv_norm (ss' := [.par (.str u), .no, .no, .no]) (by rfl) ?_
    refine sv_cons (s1_asg (as := [1, 2, 3]) (ePart <| nm 0 <| ev_str ⟨⟨by decide +kernel, by omega⟩, gv_tup rfl rfl <| gs_cons <| gOne 1 nd <| gs_cons <| gOne 2 nd <| gs_cons <| gOne 3 nd <| gs_nil ?_⟩) (by decide))
    rw [pt]
    refine sv_norm (ss' := [.par (.str u), .own (.str u), .own (.str ""), .own (.str "")]) (by rfl) ?_
    refine sv_cons (s1_if <| tv_w <| wv_and <| tEq <| nm 2 <| ev_str ⟨fun _ => wv_and1 <| eIn <| nm 1 <| ev_glo rfl GP ⟨_, _, rfl, rfl, fun _ => ?_, fun z => ?_⟩, fun z => (by rw [decide_eq_true rfl] at z; cases z)⟩)
    · exact sv_one (s1_ret <| dTup <| av_cons <| nm 1 <| av_nil ⟨rfl, _, rfl, hk⟩)
    · exact absurd (show inV (V.str u) [.str "one", .str "few", .str "alone", .str "wide", .str "level"] = false from z) (by rw [pin]; decide)
abbrev brT (T : List Thg) : Str := Txt.join " | " (T.map thT)
def F_read_paper : List D → (D → Prop) → Prop := fun ds k => ∃ (u : Str) (T : List Thg), ds = [.str (pprT u T)] ∧ (shp u (T.map thC) ∧ ∀ t, t ∈ T → thOk t) ∧ k (pprD u T)
theorem part_ppr {u v : Str} (h : 32 ∉ TL.tl u) : Txt.partition (u ++ " " ++ v) " " = (u, (" " : Str), v) := TL.partition_app tl_blank h
set_option maxHeartbeats 0 in
theorem ok_read_paper {f : Addr} {fd : FuncData} (Fn : FunD K "read_paper" "read_paper" (defArgs s_read_paper) (defBody s_read_paper) (defScope s_read_paper) [] [] f fd) (T0 : Txt mg) (SH : DicV K w mg "SHAPES" shpKV) {f1 f2 f3 : Addr} {fd1 fd2 fd3 : FuncData} (RD : DicV K w mg "READERS" [("r", fnD f1), ("l", fnD f2), ("s", fnD f3)]) (V1 : FnV P w K mg base 4 p_read_row f1 fd1 F_read_row) (V2 : FnV P w K mg base 5 p_read_rows f2 fd2 F_read_rows) (V3 : FnV P w K mg base 6 p_read_parts f3 fd3 F_read_parts) : FnOk P w K mg base CX0 7 f fd p_read_paper (spP K F_read_paper) := by
  refine fun_okP Fn sc_read_paper (fun ds q ⟨_, _, e, _⟩ => by rw [e]; rfl) fun cdv A outer s H E hr ds k hF => ?_
  obtain ⟨u, T, rfl, ⟨hsh, hT⟩, hk⟩ := hF
  obtain ⟨z, hz, ez, ul, cl3, cl1, _, nb⟩ := shp_kv hsh
  rw [List.length_map] at cl3 cl1
  have nd := sc_read_paper.nd
  have hne : T ≠ [] := fun e => by rw [e] at cl1; exact absurd cl1 (by decide)
  have s1 : ((T.map thT).map (·.length)).sum + (T.map thT).length * (" | " : Str).length ≤ 661479 := by
    rw [bar_len]
    exact lst_sum (B := 220490) (m := 3) (q := 3) (fun y hy => by
      obtain ⟨t, ht, rfl⟩ := List.mem_map.mp hy
      exact th_len (hT t ht)) (by rw [List.length_map]; exact cl3)
  have j1 : (Txt.join " | " (T.map thT)).length ≤ 661479 := Nat.le_trans join_le s1
  have j2 : (brT T).length ≤ 1000000 := Nat.le_trans j1 (by decide)
  have bl : (" " : Str).length = 1 := blank_len
  have pl : (pprT u T).length ≤ 700000 := by unfold pprT; rw [strLen_append, strLen_append, bl]; omega
  have pt : Txt.partition (pprT u T) " " = (u, (" " : Str), Txt.join " | " (T.map thT)) := part_ppr nb
  have sp := split_ppr hne
  have zl : z.length = T.length := by
    have e : z.length = z.cps.toList.length := by rw [Array.length_toList]; rfl
    rw [e, ez, List.length_map]
  refine sv_cons (s1_asg (as := [1, 2, 3]) (ePart <| nm 0 <| ev_str ⟨⟨by decide +kernel, by omega⟩, gv_tup rfl rfl <| gs_cons <| gOne 1 nd <| gs_cons <| gOne 2 nd <| gs_cons <| gOne 3 nd <| gs_nil ?_⟩) (by decide))
  rw [pt]
  refine sv_norm (ss' := [.par (.str (pprT u T)), .own (.str u), .own (.str " "), .own (.str (brT T)), .no, .no, .no, .no, .no]) (by rfl) ?_
  refine sv_cons (s1_if <| tv_w <| wv_or <| tEq <| nm 2 <| ev_str ⟨fun z => absurd (of_decide_eq_true z) (by decide +kernel), fun _ => wv_or1 <| tNotInG SH <| nm 1 ⟨⟨_, hz⟩, fun z => (nomatch z), fun _ => sv_nil ?_⟩⟩)
  refine sv_cons (sSet 4 nd <| eSplit <| nm 3 <| ev_str ⟨⟨by decide +kernel, j2⟩, rfl, rfl, ?_⟩)
  rw [sp]
  refine sv_norm (ss' := [.par (.str (pprT u T)), .own (.str u), .own (.str " "), .own (.str (brT T)), .own (.lst ((T.map thT).map D.str)), .no, .no, .no, .no]) (by rfl) ?_
  refine sv_cons (s1_if <| tNe <| eLen rfl T0.len <| nm 4 <| eLenS T0.len <| eIxG SH <| nm 1 ⟨_, hz, by omega, fun e => ?_, fun _ => sv_nil ?_⟩)
  · rw [List.length_map, List.length_map, zl, decide_eq_true rfl] at e
    cases e
  refine sv_cons (sSet 5 nd <| dLst <| av_cons <| nm 1 <| av_nil ⟨rfl, rfl, rfl, ?_⟩)
  refine sv_norm (ss' := [.par (.str (pprT u T)), .own (.str u), .own (.str " "), .own (.str (brT T)), .own (.lst ((T.map thT).map D.str)), .own (.lst [.str u]), .no, .no, .no]) (by rfl) ?_
  refine sv_cons (sFor [6, 7, 8] <| wZipXL T0.zip <| eIxG SH <| nm 1 ⟨_, hz, nm 4 ⟨_, rfl, by rw [ez, List.length_map, List.length_map, List.length_map], fun i s => s = [.par (.str (pprT u T)), .own (.str u), .own (.str " "), .own (.str (brT T)), .own (.lst ((T.map thT).map D.str)), .own (.lst (.str u :: (T.take i).map thD)), .no, .no, .no], rfl, ?_, ?_⟩⟩)
  · rintro i el s hel rfl
    obtain ⟨pr, hpr, rfl⟩ := els_get hel
    obtain ⟨hc, hd⟩ := List.getElem?_zip_eq_some.mp hpr
    obtain ⟨c, dd⟩ := pr
    rw [List.getElem?_map, List.getElem?_map] at hd
    cases ht : T[i]? with
    | none => rw [ht] at hd; cases hd
    | some t =>
    rw [ht] at hd
    cases hd
    rw [ez, List.getElem?_map, ht] at hc
    cases hc
    dsimp only
    rw [it_flat rfl]
    have hok := hT t (List.mem_of_getElem? ht)
    have hl : ((T.take i).map thD).length < 999999 := by rw [List.length_map, List.length_take]; omega
    have en : (T.take (i + 1)).map thD = (T.take i).map thD ++ [thD t] := by
      rw [take_next ht, List.map_append]; rfl
    refine gTwo 6 7 nd ?_
    cases t with
    | r l =>
      have er : (⟨#[114]⟩ : Str) = "r" := by decide +kernel
      refine sv_norm (ss' := [.par (.str (pprT u T)), .own (.str u), .own (.str " "), .own (.str (brT T)), .own (.lst ((T.map thT).map D.str)), .own (.lst (.str u :: (T.take i).map thD)), .own (.str ⟨#[114]⟩), .own (.str (rowT l)), .no]) (by rfl) ?_
      refine sv_cons (sSet 8 nd <| eIxG RD <| nm 6 ⟨_, by rw [er]; exact .head _, rfl, rfl, ?_⟩)
      refine sv_norm (ss' := [.par (.str (pprT u T)), .own (.str u), .own (.str " "), .own (.str (brT T)), .own (.lst ((T.map thT).map D.str)), .own (.lst (.str u :: (T.take i).map thD)), .own (.str ⟨#[114]⟩), .own (.str (rowT l)), .own (fnD f1)]) (by rfl) ?_
      refine sv_cons (s1_expr (eApp 5 <| cCallV 8 V1 hr (by decide) <| av_cons <| nm 7 <| av_nil ⟨l, rfl, ⟨hok.1, Nat.le_trans hok.2.1 (by decide), hok.2.2⟩, _, _, rfl, rfl, by rw [List.length_cons]; omega, ?_⟩))
      refine sv_forget [6, 7, 8] (sv_nil ?_)
      rw [en]
      rfl
    | l R =>
      have er : (⟨#[108]⟩ : Str) = "l" := by decide +kernel
      refine sv_norm (ss' := [.par (.str (pprT u T)), .own (.str u), .own (.str " "), .own (.str (brT T)), .own (.lst ((T.map thT).map D.str)), .own (.lst (.str u :: (T.take i).map thD)), .own (.str ⟨#[108]⟩), .own (.str (tabT R)), .no]) (by rfl) ?_
      refine sv_cons (sSet 8 nd <| eIxG RD <| nm 6 ⟨_, by rw [er]; exact .tail _ (.head _), rfl, rfl, ?_⟩)
      refine sv_norm (ss' := [.par (.str (pprT u T)), .own (.str u), .own (.str " "), .own (.str (brT T)), .own (.lst ((T.map thT).map D.str)), .own (.lst (.str u :: (T.take i).map thD)), .own (.str ⟨#[108]⟩), .own (.str (tabT R)), .own (fnD f2)]) (by rfl) ?_
      refine sv_cons (s1_expr (eApp 5 <| cCallV 8 V2 hr (by decide) <| av_cons <| nm 7 <| av_nil ⟨R, rfl, hok, _, _, rfl, rfl, by rw [List.length_cons]; omega, ?_⟩))
      refine sv_forget [6, 7, 8] (sv_nil ?_)
      rw [en]
      rfl
    | s L =>
      have er : (⟨#[115]⟩ : Str) = "s" := by decide +kernel
      refine sv_norm (ss' := [.par (.str (pprT u T)), .own (.str u), .own (.str " "), .own (.str (brT T)), .own (.lst ((T.map thT).map D.str)), .own (.lst (.str u :: (T.take i).map thD)), .own (.str ⟨#[115]⟩), .own (.str (prsT L)), .no]) (by rfl) ?_
      refine sv_cons (sSet 8 nd <| eIxG RD <| nm 6 ⟨_, by rw [er]; exact .tail _ (.tail _ (.head _)), rfl, rfl, ?_⟩)
      refine sv_norm (ss' := [.par (.str (pprT u T)), .own (.str u), .own (.str " "), .own (.str (brT T)), .own (.lst ((T.map thT).map D.str)), .own (.lst (.str u :: (T.take i).map thD)), .own (.str ⟨#[115]⟩), .own (.str (prsT L)), .own (fnD f3)]) (by rfl) ?_
      refine sv_cons (s1_expr (eApp 5 <| cCallV 8 V3 hr (by decide) <| av_cons <| nm 7 <| av_nil ⟨L, rfl, hok, _, _, rfl, rfl, by rw [List.length_cons]; omega, ?_⟩))
      refine sv_forget [6, 7, 8] (sv_nil ?_)
      rw [en]
      rfl
  rintro s rfl
  have el : ((z.cps.toList.zip ((T.map thT).map D.str)).map fun p => El.two (.own (.str ⟨#[p.1]⟩)) (it 1 (.view (.v 4) (.lst ((T.map thT).map D.str))) p.2)).length = T.length := by
    rw [List.length_map, List.length_zip, ez, List.length_map, List.length_map, List.length_map, Nat.min_self]
  have e2 : ∀ n, n = T.length → (T.take n).map thD = T.map thD := fun n h => by rw [h, List.take_length]
  refine sv_norm (ss' := [.par (.str (pprT u T)), .own (.str u), .own (.str " "), .own (.str (brT T)), .own (.lst ((T.map thT).map D.str)), .own (.lst (.str u :: T.map thD)), .no, .no, .no]) (by rw [← e2 _ el]; rfl) ?_
  exact sv_one (s1_ret <| eTupOf T0.tuple <| vM 5 ⟨_, rfl, _, rfl, hk⟩)
end
end K79
namespace K79
open PySem PySem.Spec PyProof.Rows L2 DL K03
section
variable {P : Program} {w : World} {K : PySem.W.Frag} {mg : Str → Option Value} {base : Heap}
def Nam (z : Str) : Prop := 1 ≤ z.length ∧ z.length ≤ 8 ∧ ∀ c, c ∈ z.cps.toList → c ∈ ("abcdefghijklmnopqrstuvwxyz" : Str).cps.toList
theorem nam_chr {z : Str} (h : Nam z) {c : Nat} (hc : c ∈ TL.tl z) : 97 ≤ c ∧ c ≤ 122 := by
  have e : ("abcdefghijklmnopqrstuvwxyz" : Str).cps.toList = (List.range 26).map (· + 97) := by decide +kernel
  have := h.2.2 c hc
  rw [e] at this
  obtain ⟨k, hk, rfl⟩ := List.mem_map.mp this
  have := List.mem_range.mp hk
  omega
theorem nam_split {z : Str} (h : Nam z) : Txt.split z " " = [z] := by
  rcases split_two z sp_ok.1 sp_ok.2 with ⟨a, b, _, _, e⟩ | ⟨_, e⟩
  · have : 32 ∈ TL.tl z := by rw [e, tl_blank]; simp
    have := nam_chr h this
    omega
  · exact e
abbrev signsKV : List (Str × D) := [("drop", .str "e"), ("show", .str "e"), ("names", .str ""), ("turn", .str "nt"), ("exchange", .str "ntc"), ("minor", .str "tc"), ("gaps", .str "trr"), ("answers", .str "tr"), ("turning", .str "t"), ("least", .str "tr"), ("way", .str "tr"), ("level", .str "tr"), ("along", .str "trr")]
def F_sure_name : List D → (D → Prop) → Prop := fun ds k => ∃ z : Str, ds = [.str z] ∧ Nam z ∧ k (.str z)
set_option maxHeartbeats 0 in
theorem ok_sure_name {f : Addr} {fd : FuncData} (Fn : FunD K "sure_name" "sure_name" (defArgs s_sure_name) (defBody s_sure_name) (defScope s_sure_name) [] [] f fd) (T : Txt mg) (GL : GloD K mg "LETTERS" (.str "abcdefghijklmnopqrstuvwxyz")) : FnOk P w K mg base CX0 1 f fd p_sure_name (spP K F_sure_name) := by
  refine fun_okP Fn sc_sure_name (fun ds q ⟨_, e, _⟩ => by rw [e]; rfl) fun cdv A outer s H E hr ds k hF => ?_
  obtain ⟨z, rfl, hz, hk⟩ := hF
  have nd := sc_sure_name.nd
  have ln := TL.len_tl z
  have h1 := hz.1
  have h8 := hz.2.1
  refine sv_consI (fun s => s = [.par (.str z), .no]) ?_ ?_
  · refine s1_if <| tv_w <| wv_or <| tv_not <| tChI op_le op_le (ev_int <| eLenS T.len <| nm 0 ⟨by omega, fun _ => ev_int ⟨fun q => ?_, fun _ => ?_⟩, fun q => absurd (of_decide_eq_false q) (by omega)⟩) (by with_unfolding_all rfl)
    · have q : decide (((z.length : Nat) : Int) ≤ 8) = false := by simpa using q
      exact absurd (of_decide_eq_false q) (by omega)
    refine wv_or1 <| tv_not <| tVal <| eAll T.all rfl <| eLc [("sign", 1)] nd (blkOk_by (N := n_sure_name) (sc := defScope s_sure_name) (by decide +kernel)) <| wStr <| nm 0 ⟨fun i s acc => s = [.par (.str z), .no] ∧ acc = ((z.cps.toList.take i).map fun c => decide (c ∈ ("abcdefghijklmnopqrstuvwxyz" : Str).cps.toList)).map D.bl, ⟨rfl, rfl⟩, ?_, ?_⟩
    · rintro i el s acc hel ⟨rfl, rfl⟩ s0 H0 C0 cl fp
      obtain ⟨c, hc, rfl⟩ := els_get hel
      have hin := getElem?_lt hc
      refine gOne 1 nd fun s0 H0 C0 cl fp => tsv_nil ⟨fun _ s0 H0 C0 cl fp => eInC <| nm 1 <| ev_glo rfl GL ⟨c, rfl, _, rfl, ?_, rfl, ?_⟩, fun z => (nomatch z)⟩
      · rw [List.length_map, List.length_map, List.length_take]
        have : z.cps.toList.length = z.length := ln.symm
        omega
      · rw [take_next hc, List.map_append, List.map_append]
        rfl
    rintro s acc ⟨rfl, rfl⟩
    rw [List.length_map, List.take_length]
    have al : ((z.cps.toList.map fun c => decide (c ∈ ("abcdefghijklmnopqrstuvwxyz" : Str).cps.toList)).all id) = true := List.all_eq_true.mpr fun b hb => by
      obtain ⟨c, hc, rfl⟩ := List.mem_map.mp hb
      exact decide_eq_true (hz.2.2 c hc)
    refine ⟨_, rfl, fun q => ?_, fun _ => sv_nil rfl⟩
    rw [al] at q
    cases q
  rintro s rfl
  exact sv_one (s1_ret <| nm 0 ⟨_, rfl, hk⟩)
def F_things_in : List D → (D → Prop) → Prop := fun ds k => ∃ z : Str, ds = [.str "show", .str z] ∧ Nam z ∧ k (.lst [.tup [.str "e", .str z]])
set_option maxHeartbeats 0 in
theorem ok_things_in {f : Addr} {fd : FuncData} (Fn : FunD K "things_in" "things_in" (defArgs s_things_in) (defBody s_things_in) (defScope s_things_in) [] [] f fd) (T : Txt mg) (SG : DicN K w mg "SIGNS" signsKV) {f1 : Addr} {fd1 : FuncData} (SN : DefAt P w K mg base CX0 1 "sure_name" p_sure_name f1 fd1 [] F_sure_name) : FnOk P w K mg base CX0 2 f fd p_things_in (spP K F_things_in) := by
  refine fun_okP Fn sc_things_in (fun ds q ⟨_, e, _⟩ => by rw [e]; rfl) fun cdv A outer s H E hr ds k hF => ?_
  obtain ⟨z, rfl, hz, hk⟩ := hF
  have nd := sc_things_in.nd
  have h8 := hz.2.1
  have l1 : ("e" : Str).length = 1 := by decide +kernel
  have hm : (("show" : Str), D.str "e") ∈ signsKV := .tail _ (.head _)
  refine sv_cons (sSet 2 nd <| eIfE <| tIsN <| nm 1 ⟨fun q => (nomatch q), fun _ => eSplit <| nm 1 <| ev_str ⟨⟨by decide +kernel, by omega⟩, rfl, rfl, ?_⟩⟩)
  rw [nam_split hz]
  refine sv_norm (ss' := [.par (.str "show"), .par (.str z), .own (.lst [.str z]), .no, .no, .no]) (by rfl) ?_
  refine sv_cons (s1_if <| tNe <| eLen rfl T.len <| nm 2 <| eLenS T.len <| eIxG SG.v <| nm 0 ⟨_, hm, by omega, fun q => ?_, fun _ => sv_nil ?_⟩)
  · rw [l1] at q
    cases q
  refine sv_cons (sSet 3 nd <| dLst <| av_nil ⟨rfl, rfl, rfl, ?_⟩)
  refine sv_norm (ss' := [.par (.str "show"), .par (.str z), .own (.lst [.str z]), .own (.lst []), .no, .no]) (by rfl) ?_
  refine sv_cons (sFor [4, 5] <| wZipXL T.zip <| eIxG SG.v <| nm 0 ⟨_, hm, nm 2 ⟨_, rfl, (show ("e" : Str).cps.toList.length = 1 by decide +kernel), fun i s => s = [.par (.str "show"), .par (.str z), .own (.lst [.str z]), .own (.lst ([.tup [.str "e", .str z]].take i)), .no, .no], rfl, ?_, ?_⟩⟩)
  · rintro i el s hel rfl
    have es : ("e" : Str).cps.toList = [101] := by decide +kernel
    have ee : (⟨#[101]⟩ : Str) = "e" := by decide +kernel
    rw [es] at hel
    match i, hel with
    | 0, hel =>
      cases hel
      dsimp only
      rw [it_flat rfl]
      refine gTwo 4 5 nd ?_
      refine sv_norm (ss' := [.par (.str "show"), .par (.str z), .own (.lst [.str z]), .own (.lst []), .own (.str "e"), .own (.str z)]) (by rw [← ee]; rfl) ?_
      refine sv_cons (s1_expr <| eApp 3 <| dTup <| av_cons <| nm 4 <| av_cons <| eIfE <| tEq <| nm 4 <| ev_str ⟨fun q => absurd (of_decide_eq_true q) (by decide +kernel), fun _ => cCall SN hr (by decide) <| av_cons <| nm 5 <| av_nil ⟨z, rfl, hz, av_nil ⟨rfl, _, _, rfl, rfl, by decide, ?_⟩⟩⟩)
      exact sv_forget [4, 5] (sv_nil rfl)
    | i + 1, hel => cases hel
  rintro s rfl
  refine sv_norm (ss' := [.par (.str "show"), .par (.str z), .own (.lst [.str z]), .own (.lst [.tup [.str "e", .str z]]), .no, .no]) (by
    have es : ("e" : Str).cps.toList = [101] := by decide +kernel
    rw [es]
    rfl) ?_
  exact sv_one (s1_ret <| vM 3 ⟨_, rfl, hk⟩)
def F_given_in : List D → (D → Prop) → Prop := fun ds k => ∃ (z : Str) (r : List Rat), ds = [.str "row", .str (z ++ " = " ++ rowT r)] ∧ (Nam z ∧ Rw r) ∧ k (.lst [.tup [.str "n", .str z], .tup [.str "x", rowD r]])
theorem part_is {z v : Str} (h : Nam z) : Txt.partition (z ++ " = " ++ v) " = " = (z, (" = " : Str), v) := TL.partition_app (s := 32) (S := [61, 32]) (by decide +kernel) fun q => by
  have := nam_chr h q
  omega
set_option maxHeartbeats 0 in
theorem ok_given_in {f : Addr} {fd : FuncData} (Fn : FunD K "given_in" "given_in" (defArgs s_given_in) (defBody s_given_in) (defScope s_given_in) [] [] f fd) {f1 f2 : Addr} {fd1 fd2 : FuncData} (SN : DefAt P w K mg base CX0 1 "sure_name" p_sure_name f1 fd1 [] F_sure_name) (RR : DefAt P w K mg base CX0 4 "read_row" p_read_row f2 fd2 [] F_read_row) : FnOk P w K mg base CX0 5 f fd p_given_in (spP K F_given_in) := by
  refine fun_okP Fn sc_given_in (fun ds q ⟨_, _, e, _⟩ => by rw [e]; rfl) fun cdv A outer s H E hr ds k hF => ?_
  obtain ⟨z, r, rfl, ⟨hz, hr0⟩, hk⟩ := hF
  have nd := sc_given_in.nd
  have h8 := hz.2.1
  have rl := rw_len hr0
  have l3 : (" = " : Str).length = 3 := by decide +kernel
  refine sv_cons (s1_asg (as := [2, 3, 4]) (ePart <| nm 1 <| ev_str ⟨⟨by decide +kernel, by rw [strLen_append, strLen_append, l3]; omega⟩, gv_tup rfl rfl <| gs_cons <| gOne 2 nd <| gs_cons <| gOne 3 nd <| gs_cons <| gOne 4 nd <| gs_nil ?_⟩) (by decide))
  rw [part_is hz]
  refine sv_norm (ss' := [.par (.str "row"), .par (.str (z ++ " = " ++ rowT r)), .own (.str z), .own (.str " = "), .own (.str (rowT r)), .no]) (by rfl) ?_
  refine sv_cons (s1_if <| tEq <| nm 3 <| ev_str ⟨fun q => absurd (of_decide_eq_true q) (by decide +kernel), fun _ => sv_nil ?_⟩)
  refine sv_cons (sSet 5 nd <| eIfE <| tEq <| nm 0 <| ev_str ⟨fun q => absurd (of_decide_eq_true q) (by decide +kernel), fun _ => cCall RR hr (by decide) <| av_cons <| nm 4 <| av_nil ⟨r, rfl, ⟨hr0.1, Nat.le_trans hr0.2.1 (by decide), hr0.2.2⟩, rfl, rfl, ?_⟩⟩)
  refine sv_norm (ss' := [.par (.str "row"), .par (.str (z ++ " = " ++ rowT r)), .own (.str z), .own (.str " = "), .own (.str (rowT r)), .own (rowD r)]) (by rfl) ?_
  exact sv_one (s1_ret <| dLst <| av_cons <| dTup <| av_cons <| ev_str <| av_cons <| cCall SN hr (by decide) <| av_cons <| nm 2 <| av_nil ⟨z, rfl, hz, av_nil ⟨rfl, av_cons <| dTup <| av_cons <| ev_str <| av_cons <| vM 5 <| av_nil ⟨rfl, av_nil ⟨rfl, _, rfl, hk⟩⟩⟩⟩)
def F_line_in1 : List D → (D → Prop) → Prop := fun ds k => ∃ (z : Str) (r : List Rat), ds = [.str (("row" : Str) ++ " " ++ (z ++ " = " ++ rowT r))] ∧ (Nam z ∧ Rw r) ∧ k (.tup [.str "row", .lst [.tup [.str "n", .str z], .tup [.str "x", rowD r]]])
def F_line_in2 : List D → (D → Prop) → Prop := fun ds k => ∃ z : Str, ds = [.str (("show" : Str) ++ " " ++ z)] ∧ Nam z ∧ k (.tup [.str "show", .lst [.tup [.str "e", .str z]]])
def F_line_in : List D → (D → Prop) → Prop := fun ds k => F_line_in1 ds k ∨ F_line_in2 ds k
theorem sg_row (d : D) : (("row" : Str), d) ∉ signsKV := fun h => by
  have this : ("row" : Str) ∈ signsKV.map (·.1) := List.mem_map.mpr ⟨_, h, rfl⟩
  exact absurd this (by decide +kernel)
theorem sg_show (h : ∀ q, q ∈ signsKV → q.1 ≠ ("show" : Str)) : False := h _ (.tail _ (.head _)) rfl
set_option maxHeartbeats 0 in
theorem ok_line_in {f : Addr} {fd : FuncData} (Fn : FunD K "line_in" "line_in" (defArgs s_line_in) (defBody s_line_in) (defScope s_line_in) [] [] f fd) (SG : DicN K w mg "SIGNS" signsKV) {f1 f2 : Addr} {fd1 fd2 : FuncData} (TI : DefAt P w K mg base CX0 2 "things_in" p_things_in f1 fd1 [] F_things_in) (GI : DefAt P w K mg base CX0 5 "given_in" p_given_in f2 fd2 [] F_given_in) : FnOk P w K mg base CX0 6 f fd p_line_in (spP K F_line_in) := by
  refine FnOk.or ?_ ?_
  · refine fun_okP Fn sc_line_in (fun ds q ⟨_, _, e, _⟩ => by rw [e]; rfl) fun cdv A outer s H E hr ds k hF => ?_
    obtain ⟨z, r, rfl, ⟨hz, hr0⟩, hk⟩ := hF
    have nd := sc_line_in.nd
    have h8 := hz.2.1
    have rl := rw_len hr0
    have l3 : (" = " : Str).length = 3 := by decide +kernel
    have b1 : (" " : Str).length = 1 := by decide +kernel
    have w3 : ("row" : Str).length = 3 := by decide +kernel
    have pt : Txt.partition (("row" : Str) ++ " " ++ (z ++ " = " ++ rowT r)) " " = (("row" : Str), (" " : Str), z ++ " = " ++ rowT r) := TL.partition_app tl_blank (by decide +kernel)
    refine sv_cons (s1_asg (as := [1, 2, 3]) (ePart <| nm 0 <| ev_str ⟨⟨by decide +kernel, by rw [strLen_append, strLen_append, strLen_append, strLen_append, l3, b1, w3]; omega⟩, gv_tup rfl rfl <| gs_cons <| gOne 1 nd <| gs_cons <| gOne 2 nd <| gs_cons <| gOne 3 nd <| gs_nil ?_⟩) (by decide))
    rw [pt]
    refine sv_norm (ss' := [.par (.str (("row" : Str) ++ " " ++ (z ++ " = " ++ rowT r))), .own (.str "row"), .own (.str " "), .own (.str (z ++ " = " ++ rowT r))]) (by rfl) ?_
    refine sv_cons (s1_if <| tInN SG <| nm 1 ⟨fun ⟨d, hd⟩ => absurd hd (sg_row d), fun _ => ⟨fun q => (nomatch q), fun _ => sv_nil ?_⟩⟩)
    refine sv_cons (s1_if <| eIn <| nm 1 <| dTup <| av_cons <| ev_str <| av_cons <| ev_str <| av_nil ⟨rfl, _, _, rfl, rfl, fun _ => ?_, fun q => ?_⟩)
    · exact sv_one (s1_ret <| dTup <| av_cons <| nm 1 <| av_cons <| cCall GI hr (by decide) <| av_cons <| nm 1 <| av_cons <| nm 3 <| av_nil ⟨z, r, rfl, ⟨hz, hr0⟩, av_nil ⟨rfl, _, rfl, hk⟩⟩)
    · exact absurd (show inV (V.str "row") [.str "table", .str "row"] = false from q) (by decide +kernel)
  · refine fun_okP Fn sc_line_in (fun ds q ⟨_, e, _⟩ => by rw [e]; rfl) fun cdv A outer s H E hr ds k hF => ?_
    obtain ⟨z, rfl, hz, hk⟩ := hF
    have nd := sc_line_in.nd
    have h8 := hz.2.1
    have b1 : (" " : Str).length = 1 := by decide +kernel
    have w3 : ("show" : Str).length = 4 := by decide +kernel
    have pt : Txt.partition (("show" : Str) ++ " " ++ z) " " = (("show" : Str), (" " : Str), z) := TL.partition_app tl_blank (by decide +kernel)
    refine sv_cons (s1_asg (as := [1, 2, 3]) (ePart <| nm 0 <| ev_str ⟨⟨by decide +kernel, by rw [strLen_append, strLen_append, b1, w3]; omega⟩, gv_tup rfl rfl <| gs_cons <| gOne 1 nd <| gs_cons <| gOne 2 nd <| gs_cons <| gOne 3 nd <| gs_nil ?_⟩) (by decide))
    rw [pt]
    refine sv_norm (ss' := [.par (.str (("show" : Str) ++ " " ++ z)), .own (.str "show"), .own (.str " "), .own (.str z)]) (by rfl) ?_
    refine sv_cons (s1_if <| tInN SG <| nm 1 ⟨fun _ => ⟨fun _ => ?_, fun q => (nomatch q)⟩, fun hn => (sg_show hn).elim⟩)
    exact sv_one (s1_ret <| dTup <| av_cons <| nm 1 <| av_cons <| cCall TI hr (by decide) <| av_cons <| nm 1 <| av_cons <| eIfE <| tEq <| nm 2 <| ev_str ⟨fun q => absurd (of_decide_eq_true q) (by decide +kernel), fun _ => nm 3 <| av_nil ⟨z, rfl, hz, av_nil ⟨rfl, _, rfl, hk⟩⟩⟩)
end
end K79
namespace DL
open PySem PySem.Spec PyProof.Rows L2
theorem repos_take {K : PySem.W.Frag} {H : Hp} : ∀ {l : List D} {vs : List V} {G : List Addr} {n : Nat} {d : D}, RepOs K H l vs G → G.Nodup → l[n]? = some d →
    ∃ w F1 G2, vs[n]? = some w ∧ RepO K H d w F1 ∧ RepOs K H (l.set n (.raw w)) vs G2 ∧ F1.Nodup ∧ G2.Nodup ∧ (∀ a, a ∈ F1 → a ∈ G ∧ a ∉ G2) ∧ ∀ a, a ∈ G2 → a ∈ G
  | [], _, _, _, _, _, _, e => by simp at e
  | x :: l, vs, G, 0, d, h, nd, e => by
    unfold RepOs at h
    obtain ⟨w, ws, F1, F2, rfl, rfl, h1, h2⟩ := h
    have e : x = d := by simpa using e
    subst e
    obtain ⟨n1, n2, n3⟩ := List.nodup_append.mp nd
    refine ⟨w, F1, F2, rfl, h1, ?_, n1, n2, fun a ha => ⟨List.mem_append.mpr (.inl ha), fun z => n3 a ha a z rfl⟩, fun a ha => List.mem_append.mpr (.inr ha)⟩
    rw [List.set_cons_zero]
    unfold RepOs
    exact ⟨w, ws, [], F2, rfl, rfl, by unfold RepO; exact ⟨rfl, rfl⟩, h2⟩
  | x :: l, vs, G, n + 1, d, h, nd, e => by
    unfold RepOs at h
    obtain ⟨w, ws, F1, F2, rfl, rfl, h1, h2⟩ := h
    obtain ⟨n1, n2, n3⟩ := List.nodup_append.mp nd
    have e : l[n]? = some d := by simpa using e
    obtain ⟨u, Fa, Ga, g1, g2, g3, g4, g5, g6, g7⟩ := repos_take h2 n2 e
    refine ⟨u, Fa, F1 ++ Ga, by simpa using g1, g2, ?_, g4, List.nodup_append.mpr ⟨n1, g5, fun a ha b hb z => n3 a ha b (g7 b hb) z⟩, fun a ha => ⟨List.mem_append.mpr (.inr (g6 a ha).1), fun z => ?_⟩, fun a ha => ?_⟩
    · rw [List.set_cons_succ]
      unfold RepOs
      exact ⟨w, ws, F1, Ga, rfl, rfl, h1, g3⟩
    · rcases List.mem_append.mp z with z | z
      · exact n3 a z a (g6 a ha).1 rfl
      · exact (g6 a ha).2 z
    · rcases List.mem_append.mp ha with z | z
      · exact List.mem_append.mpr (.inl z)
      · exact List.mem_append.mpr (.inr (g7 a z))
section
variable {X : Cx} {ss ts : List Slot} {Φ : List Slot → Slot → Prop} {Θ : List Slot → Bool → Prop} {e a b tg : Expr} {es : List Expr} {pos p p2 : Pos} {x : Str} {N : List Slot → Prop}
theorem eIxMove (i n : Nat) {l : List D} {d : D} {kk0 : Nat} (q : ∀ v, Φ ((ss.map (kill (.v i))).set i (.own (.lst (l.set n (.raw v))))) (.own d)) (hs : ss[i]? = some (.own (.lst l)) := by rfl) (hn : l[n]? = some d := by rfl) (ht : noView (.v i) ts = true := by rfl) (hN : X.N[i]? = some x := by rfl) (hv : Vis X.env.scope x := by first | exact Or.inl rfl | exact Or.inr (Or.inl rfl) | exact Or.inr (Or.inr rfl)) (hd : (x == ("__debug__" : Str)) = false := by decide) (hcd : (x == ("__classdict__" : Str)) = false := by decide) :
    EV X (.Subscript (.Name x p) (.Constant (.int (n : Int)) kk0 p2) pos) ss ts Φ := fun m B σ tv H Q hm hh k => by
  refine toE (pe_ix ix_seq (pe_var hN hv hd hcd) pe_int (by intro _ _; rfl)) ?_
  obtain ⟨fp, h⟩ := hh
  obtain ⟨w0, e1, r⟩ := h.var i _ hs
  have ex : σ[i]? = some (some w0) := by
    cases e : σ[i]? with
    | none => rw [e] at e1; cases e1
    | some y => rw [e] at e1; have z : y = some w0 := e1; rw [z]
  unfold RepO at r
  obtain ⟨c, vs, G, rfl, ea, eF, rl⟩ := r
  have nd := h.nod (.v i)
  rw [eF] at nd
  have nd1 := List.nodup_cons.mp nd
  obtain ⟨w, F1, G2, g1, g2, g3, g4, g5, g6, g7⟩ := repos_take rl nd1.2 hn
  refine ⟨.ref c, ex, .inl ⟨c, vs, (n : Int), w, rfl, rfl, SqL.of ea, ?_, ?_⟩⟩
  · unfold atI
    rw [ixN_of (getElem?_lt g1)]
    exact g1
  have h2 := h.change (v := .ref c) (F' := c :: G2) (d' := .lst (l.set n (.raw w))) e1 (getElem?_lt hs) (TK.refl H) (fun a o _ e => e) (by
      unfold RepO
      exact ⟨c, vs, G2, rfl, ea, rfl, g3⟩) (List.nodup_cons.mpr ⟨fun z => nd1.1 (g7 c z), g5⟩) (fun y hy => .inl (by
      rw [eF]
      rcases List.mem_cons.mp hy with rfl | hy
      · exact List.mem_cons_self
      · exact List.mem_cons_of_mem _ (g7 y hy))) ht
  have inF : ∀ y, y ∈ F1 → y ∈ fp (.v i) := fun y hy => by
    rw [eF]
    exact List.mem_cons_of_mem _ (g6 y hy).1
  refine k _ _ w H (q w) ⟨_, h2.push g2 g4 (fun y hy o _ => ?_) fun y hy => h.out _ y (inF y hy)⟩
  show y ∉ (if o = .v i then c :: G2 else fp o)
  by_cases eo : o = .v i
  · rw [if_pos eo]
    intro z
    rcases List.mem_cons.mp z with z | z
    · subst z
      exact nd1.1 (g6 y hy).1
    · exact (g6 y hy).2 z
  · rw [if_neg eo]
    intro z
    exact eo (h.disj o (.v i) y z (inF y hy))
theorem tNotInS (h : EV X a ss ts fun s1 r1 => EV X b s1 (r1 :: ts) fun s r2 => d1K (fun d1 => seqK (fun l => ∃ x xs, d1.sc = some x ∧ l.mapM D.sc = some xs ∧ Θ s (!inV x xs)) r2) r1) (hb : behindInMarks .NotIn b = false := by rfl) : TV X (.Compare a [.NotIn] [b] pos) ss ts Θ :=
  tv_notin (h.imp fun s1 r1 h1 => h1.imp fun s r2 h2 => by
    obtain ⟨d1, e1, h3⟩ := d1K_of h2
    obtain ⟨d2, l, e2, e3, x, xs, e4, e5, q⟩ := seqK_of h3
    exact ⟨d1, d2, x, l, xs, e1, e2, e4, e3, e5, q⟩) hb
end
section
variable {K : PySem.W.Frag} {x qual : Str} {params : Arguments} {body : List Stmt} {scope : Scope} {f : Addr} {fd : FuncData} {ps : List Str}
theorem kbN0 (F : FunD K x qual params body scope [] [] f fd) (n : Nat) (ks : List Str) (is : List Nat) (h : ∀ (kV doc pm : Value) (an : Option Addr) (cdv ct : Value) (us ws : List Value), us.length = n → ws.length = ks.length →
      bindArgs (PySem.W.fnOf x qual params body scope .none kV doc pm an cdv ct) ⟨us, ks.zip ws⟩ = pure (ps.zip (pick is (us ++ [] ++ ws)))) :
    KBn K fd ps n ks (fun us ws => pick is (us ++ [] ++ ws)) (fun vs zs => pick is (vs ++ [] ++ zs)) := by
  obtain ⟨oc, od, dV, kV, doc, pm, an, cdv, ct, osl, rfl, lk, hcd, hD, hK⟩ := F.ex
  rcases hD with ⟨_, rfl⟩ | ⟨e, _⟩
  · exact ⟨fun s us ws X l1 l2 => .of_eq (h kV doc pm an cdv ct us ws l1 l2), fun r1 r2 => pick_vals ((r1.append .nil).append r2)⟩
  · exact absurd rfl e
end
end DL
namespace K79
open PySem PySem.Spec PyProof.Rows L2 DL K03
section
variable {P : Program} {w : World} {K : PySem.W.Frag} {mg : Str → Option Value} {base : Heap}
def F_Desk___init__ (C : Addr) : D → List D → (D → D → Prop) → Prop := fun d0 ds k => d0 = .ins C [] [] ∧ ds = [] ∧ k (.ins C ["held"] [.dct [] []]) .non
theorem ok_Desk___init__ {f C : Addr} {fd : FuncData} (Fn : FunD K "__init__" "Desk.__init__" (defArgs s_Desk___init__) (defBody s_Desk___init__) (defScope s_Desk___init__) [] [] f fd) (c : Cls K C) (n : NoAttr K C "held") : FnOk P w K mg base CX0 1 f fd p_Desk___init__ (spI K (F_Desk___init__ C)) := by
  refine fun_okI Fn sc_Desk___init__ (fun d0 ds q ⟨_, e, _⟩ => by rw [e]; rfl) fun cdv A outer s H E hr d0 ds k hF => ?_
  obtain ⟨rfl, rfl, hk⟩ := hF
  exact sv_one (s1_fld (i := 0) (ns := []) (l0 := []) rfl (.inl rfl) c n (by decide) (by decide) <| eDctNew ⟨_, _, rfl, rfl, rfl, _, rfl, hk⟩)
abbrev dskD (C b : Addr) (ks : List Str) (l : List D) : D := .ins C ["held"] [.nam (.dct ks l) (.ref b)]
abbrev dsk (C : Addr) (ks : List Str) (l : List D) : D := .ins C ["held"] [.dct ks l]
def Un (D0 D1 : D) : Prop := ∀ K H w F, RepO K H D0 w F → RepO K H D1 w F
theorem dsk_name {K : PySem.W.Frag} {H : Hp} {C : Addr} {ks : List Str} {l : List D} {w : V} {F : List Addr} (h : RepO K H (dsk C ks l) w F) : ∃ b vs, vs.length = l.length ∧ RepO K H (dskD C b ks (nams l vs)) w F := by
  unfold RepO at h
  obtain ⟨a, dx, fs, G, rfl, ea, ed, en, rfl, rl⟩ := h
  unfold RepOs at rl
  obtain ⟨w1, ws, F1, F2, e1, rfl, r1, r2⟩ := rl
  unfold RepO at r1
  obtain ⟨b, kvs, G', rfl, eb, hk, rfl, rv⟩ := r1
  refine ⟨b, kvs.map (·.2), rv.reps.length, ?_⟩
  unfold RepO
  refine ⟨a, dx, fs, _, rfl, ea, ed, en, rfl, ?_⟩
  unfold RepOs
  refine ⟨.ref b, ws, b :: G', F2, e1, rfl, ?_, r2⟩
  unfold RepO
  refine ⟨rfl, ?_⟩
  unfold RepO
  exact ⟨b, kvs, G', rfl, eb, hk, rfl, nams_repo rv⟩
theorem dsk_un {C b : Addr} {ks : List Str} {l : List D} {vs : List V} (hl : vs.length = l.length) : Un (dskD C b ks (nams l vs)) (dsk C ks l) := fun K H w F h => by
  unfold RepO at h
  obtain ⟨a, dx, fs, G, rfl, ea, ed, en, rfl, rl⟩ := h
  unfold RepOs at rl
  obtain ⟨w1, ws, F1, F2, e1, rfl, r1, r2⟩ := rl
  unfold RepO at r1
  obtain ⟨rfl, r1⟩ := r1
  unfold RepO at r1
  obtain ⟨b', kvs, G', eb', eb, hk, rfl, rv⟩ := r1
  unfold RepO
  refine ⟨a, dx, fs, _, rfl, ea, ed, en, rfl, ?_⟩
  unfold RepOs
  refine ⟨.ref b, ws, b' :: G', F2, e1, rfl, ?_, r2⟩
  unfold RepO
  exact ⟨b', kvs, G', eb', eb, hk, rfl, nams_back hl rv⟩
theorem has_dsk {C b : Addr} {ks : List Str} {l : List D} : Has (.dct ks l) (.ref b) (dskD C b ks l) := .ins (List.mem_singleton.mpr rfl) .here
def F_Desk_found (C : Addr) : List D → (D → Prop) → Prop := fun ds k => ∃ (b : Addr) (ks : List Str) (l : List D) (s : Str) (d : D), ds = [dskD C b ks l, .str s, d] ∧ (((s = "n" ∨ s = "x") ∧ ((∃ z, d = .str z) ∨ ∃ v, d = .raw v)) ∨ (s = "e" ∧ ∃ z, d = .str z ∧ z ∈ ks)) ∧ k d
set_option maxHeartbeats 0 in
theorem ok_Desk_found {f C : Addr} {fd : FuncData} (Fn : FunD K "found" "Desk.found" (defArgs s_Desk_found) (defBody s_Desk_found) (defScope s_Desk_found) [] [] f fd) (c : Cls K C) (n : NoAttr K C "held") : FnOk P w K mg base CX0 1 f fd p_Desk_found (spP K (F_Desk_found C)) := by
  refine fun_okP Fn sc_Desk_found (fun ds q ⟨_, _, _, _, _, e, _⟩ => by rw [e]; rfl) fun cdv A outer s0 H E hr ds k hF => ?_
  obtain ⟨b, ks, l, s, d, rfl, hc, hk⟩ := hF
  have nd := sc_Desk_found.nd
  have hu := hr.units
  have hu1 := Nat.lt_of_le_of_lt (Nat.le_add_right _ 63) hu
  have ei : inV (V.str s) [.str "t", .str "r", .str "e"] = decide (s ∈ (["t", "r", "e"] : List Str)) := inV_mem (l := ["t", "r", "e"])
  rcases hc with ⟨hs, hd⟩ | ⟨rfl, z, rfl, hz⟩
  · have no : s ∉ (["t", "r", "e"] : List Str) := by rcases hs with rfl | rfl <;> decide +kernel
    refine sv_cons (s1_if <| tNotInS <| nm 1 <| dTup <| av_cons <| ev_str <| av_cons <| ev_str <| av_cons <| ev_str <| av_nil ⟨rfl, _, _, rfl, rfl, fun _ => ?_, fun q => ?_⟩)
    · rcases hd with ⟨z, rfl⟩ | ⟨v, rfl⟩
      · exact sv_one (s1_ret <| nm 2 ⟨_, rfl, hk⟩)
      · exact sv_one (s1_ret <| nm 2 ⟨_, rfl, hk⟩)
    · have q : (!inV (V.str s) [.str "t", .str "r", .str "e"]) = false := q
      rw [ei, decide_eq_false no] at q
      cases q
  · refine sv_cons (s1_if <| tNotInS <| nm 1 <| dTup <| av_cons <| ev_str <| av_cons <| ev_str <| av_cons <| ev_str <| av_nil ⟨rfl, _, _, rfl, rfl, fun q => ?_, fun _ => sv_nil ?_⟩)
    · have q : (!inV (V.str "e") [.str "t", .str "r", .str "e"]) = true := q
      rw [ei, decide_eq_true (by decide +kernel)] at q
      cases q
    refine sv_cons (s1_if <| tNotInDct 0 hu1 <| nm 2 <| eRawN <| eFld c n <| nm 0 ⟨rfl, _, rfl, _, _, .inr (.inl rfl), z, b, ks, l, _, .inl rfl, rfl, .inr rfl, has_dsk, fun q => ?_, fun _ => sv_nil ?_⟩)
    · rw [decide_eq_true hz] at q
      cases q
    refine sv_cons (s1_if <| tEq <| nm 1 <| ev_str ⟨fun _ => sv_one (s1_ret <| nm 2 ⟨_, rfl, hk⟩), fun q => absurd rfl (of_decide_eq_false q)⟩)
def F_Desk_keep (C : Addr) : D → D → D → (D → D → Prop) → Prop := fun d0 d1 d2 k => ∃ (z : Str) (ks : List Str) (l : List D), Un d0 (dsk C ks l) ∧
  ((d1 = .str "row" ∧ ∃ d, d2 = .lst [.str z, d] ∧ z ∉ ks ∧ ks.length < 1000 ∧ k (dsk C (ks ++ [z]) (l ++ [d])) (.str "ok")) ∨
   (d1 = .str "show" ∧ ∃ r, d2 = .lst [.str z] ∧ (ks.zip l).lookup z = some (rowD r) ∧ Rw r ∧ ∀ b vs, vs.length = l.length → k (dskD C b ks (nams l vs)) (.str (rowT r))))
theorem nams_look {z : Str} {d : D} : ∀ {ks : List Str} {l : List D} {vs : List V}, vs.length = l.length → (ks.zip l).lookup z = some d → ∃ v, (ks.zip (nams l vs)).lookup z = some (.nam d v) ∧ .nam d v ∈ nams l vs
  | [], l, vs, _, h => by simp at h
  | k :: ks, [], vs, _, h => by simp at h
  | k :: ks, e :: l, [], hl, _ => by simp at hl
  | k :: ks, e :: l, v :: vs, hl, h => by
    rw [List.zip_cons_cons, List.lookup_cons] at h
    unfold nams
    rw [List.zip_cons_cons, List.lookup_cons]
    by_cases q : z = k
    · subst q
      rw [beq_self_eq_true] at h ⊢
      cases h
      exact ⟨v, rfl, List.mem_cons_self⟩
    · rw [beq_eq_false_iff_ne.mpr q] at h ⊢
      obtain ⟨u, e1, e2⟩ := nams_look (vs := vs) (by simpa using hl) h
      exact ⟨u, e1, List.mem_cons_of_mem _ e2⟩
theorem dsk_name1 {K : PySem.W.Frag} {H : Hp} {C : Addr} {ks : List Str} {l : List D} {w : V} {F : List Addr} (h : RepO K H (dsk C ks l) w F) : ∃ b, RepO K H (dskD C b ks l) w F := by
  unfold RepO at h
  obtain ⟨a, dx, fs, G, rfl, ea, ed, en, rfl, rl⟩ := h
  unfold RepOs at rl
  obtain ⟨w1, ws, F1, F2, e1, rfl, r1, r2⟩ := rl
  have r0 := r1
  unfold RepO at r1
  obtain ⟨b, kvs, G', rfl, _⟩ := r1
  refine ⟨b, ?_⟩
  unfold RepO
  refine ⟨a, dx, fs, _, rfl, ea, ed, en, rfl, ?_⟩
  unfold RepOs
  refine ⟨.ref b, ws, F1, F2, e1, rfl, ?_, r2⟩
  unfold RepO
  exact ⟨rfl, r0⟩
set_option maxHeartbeats 0 in
theorem ok_Desk_keep {f C CT : Addr} {fd : FuncData} (Fn : FunD K "keep" "Desk.keep" (defArgs s_Desk_keep) (defBody s_Desk_keep) (defScope s_Desk_keep) [] [] f fd) (T : Txt mg) (c : Cls K C) (n : NoAttr K C "held") (gT : mg "Table" = some (.ref CT)) (nT : NotC K CT) {f1 : Addr} {fd1 : FuncData} (RT : DefAt P w K mg base CX0 3 "row_text" p_row_text f1 fd1 [] F_row_text) : FnOk P w K mg base CX0 4 f fd p_Desk_keep (spT3 K (F_Desk_keep C)) := by
  refine fun_okT3 Fn sc_Desk_keep rfl fun cdv A outer s0 H E hr d0 d1 d2 q hF => ?_
  obtain ⟨z, ks, l, hun, hc⟩ := hF
  have nd := sc_Desk_keep.nd
  have hu := hr.units
  have hu1 := Nat.lt_of_le_of_lt (Nat.le_add_right _ 63) hu
  rcases hc with ⟨rfl, d, rfl, hz, hl, hk⟩ | ⟨rfl, r, rfl, lk, hr0, hk⟩
  · refine sv_ghost 0 (D0 := d0) (fun D1 => ∃ b, D1 = dskD C b ks l) rfl rfl (fun H w F r _ => ?_) fun D1 ⟨b, e⟩ => ?_
    · obtain ⟨b, rb⟩ := dsk_name1 (hun _ _ _ _ r)
      exact ⟨_, ⟨b, rfl⟩, rb⟩
    subst e
    refine sv_norm (ss' := [.own (dskD C b ks l), .par (.str "row"), .own (.lst [.str z, d]), .no]) (by rfl) ?_
    refine sv_cons (s1_if <| tEq <| nm 1 <| ev_str ⟨fun q => absurd (of_decide_eq_true q) (by decide +kernel), fun _ => sv_nil ?_⟩)
    refine sv_cons (s1_if <| tEq <| nm 1 <| ev_str ⟨fun q => absurd (of_decide_eq_true q) (by decide +kernel), fun _ => sv_nil ?_⟩)
    refine sv_consI (fun s => ∃ v, s = [.own (dsk C (ks ++ [z]) (l ++ [d])), .par (.str "row"), .own (.lst [.str z, .raw v]), .no]) ?_ ?_
    · refine s1_if <| tEq <| nm 1 <| ev_str ⟨fun q => absurd (of_decide_eq_true q) (by decide +kernel), fun _ => ?_⟩
      refine sv_one (s1_if <| tEq <| nm 1 <| ev_str ⟨fun q => absurd (of_decide_eq_true q) (by decide +kernel), fun _ => ?_⟩)
      refine sv_one (s1_if <| tEq <| nm 1 <| ev_str ⟨fun q => absurd (of_decide_eq_true q) (by decide +kernel), fun _ => ?_⟩)
      refine sv_one (sDctNew 0 hu1 <| eIxMove 2 1 (l := [.str z, d]) (d := d) fun v => eRawN <| eFld c n <| nm 0 ⟨rfl, _, rfl, _, _, .inr (.inr ⟨_, rfl⟩), eIx <| vL (d := .lst [.str z, .raw v]) 2 <| ev_int ⟨.str z, rfl, rfl, z, b, d, C, "held", ks, l, rfl, rfl, .inl rfl, rfl, hz, hl, rfl, v, rfl⟩⟩)
    rintro s ⟨v, rfl⟩
    refine sv_forget [2] ?_
    exact sv_one (s1_ret <| ev_str ⟨_, _, rfl, rfl, rfl, hk⟩)
  · refine sv_ghost 0 (D0 := d0) (fun D1 => ∃ b vs, vs.length = l.length ∧ D1 = dskD C b ks (nams l vs)) rfl rfl (fun H w F r _ => ?_) fun D1 ⟨b, vs, hvs, e⟩ => ?_
    · obtain ⟨b, vs, hv, rb⟩ := dsk_name (hun _ _ _ _ r)
      exact ⟨_, ⟨b, vs, hv, rfl⟩, rb⟩
    subst e
    obtain ⟨v, lk2, hm⟩ := nams_look hvs lk
    refine sv_norm (ss' := [.own (dskD C b ks (nams l vs)), .par (.str "show"), .own (.lst [.str z]), .no]) (by rfl) ?_
    refine sv_cons (s1_if <| tEq <| nm 1 <| ev_str ⟨fun q => absurd (of_decide_eq_true q) (by decide +kernel), fun _ => sv_nil ?_⟩)
    refine sv_cons (s1_if <| tEq <| nm 1 <| ev_str ⟨fun _ => ?_, fun q => absurd rfl (of_decide_eq_false q)⟩)
    refine sv_cons (sSet 3 nd <| eDctGet 0 hu1 <| eRawN <| eFld c n <| nm 0 ⟨rfl, _, rfl, _, _, .inr (.inr ⟨_, rfl⟩), eIx <| vL (d := .lst [.str z]) 2 <| ev_int ⟨.str z, rfl, rfl, z, b, ks, nams l vs, _, rowD r, v, rfl, .inl rfl, .inl rfl, has_dsk, lk2, rfl, rfl, ?_⟩⟩)
    refine sv_norm (ss' := [.own (dskD C b ks (nams l vs)), .par (.str "show"), .own (.lst [.str z]), .own (.raw v)]) (by rfl) ?_
    refine sv_forget [2] ?_
    have hh : Has (rowD r) v (dskD C b ks (nams l vs)) := .ins (List.mem_singleton.mpr rfl) (.nam (.dct hm .here))
    refine sv_one (s1_ret <| eIfE <| tVal <| eIsNot nT T.isi gT <| eSeeN 0 <| nm 3 ⟨rowD r, v, _, rfl, hh, .inl ⟨rfl, rfl, fun q => (nomatch q), fun _ => ?_⟩⟩)
    exact cCall RT hr (by decide) <| av_cons <| eSeeN 0 <| nm 3 ⟨rowD r, v, _, rfl, hh, .inl ⟨rfl, av_nil ⟨r, rfl, nm_rw hr0, _, _, rfl, rfl, rfl, hk b vs hvs⟩⟩⟩
end
end K79
namespace K79
open PySem PySem.Spec PyProof.Rows L2 DL K03
section
variable {P : Program} {w : World} {K : PySem.W.Frag} {mg : Str → Option Value} {base : Heap}
def F_Desk_tell (C : Addr) : D → List D → (D → D → Prop) → Prop := fun d0 ds k => ∃ (z : Str) (r : List Rat) (ks : List Str) (l : List D), d0 = dsk C ks l ∧ Nam z ∧ Rw r ∧
  ((ds = [.str (("row" : Str) ++ " " ++ (z ++ " = " ++ rowT r))] ∧ z ∉ ks ∧ ks.length < 1000 ∧ k (dsk C (ks ++ [z]) (l ++ [rowD r])) (.str "ok")) ∨
   (ds = [.str (("show" : Str) ++ " " ++ z)] ∧ z ∈ ks ∧ (ks.zip l).lookup z = some (rowD r) ∧ ∀ b vs, vs.length = l.length → k (dskD C b ks (nams l vs)) (.str (rowT r))))
theorem sig_name {K : PySem.W.Frag} {H : Hp} {z : Str} {d : D} {w : V} {F : List Addr} (h : RepO K H (.lst [.tup [.str "n", .str z], .tup [.str "x", d]]) w F) : ∃ v, RepO K H (.lst [.tup [.str "n", .str z], .tup [.str "x", .nam d v]]) w F := by
  unfold RepO at h
  obtain ⟨a, vs, G, rfl, ea, rfl, r⟩ := h
  unfold RepOs at r
  obtain ⟨w1, ws, F1, F2, rfl, rfl, r1, r⟩ := r
  unfold RepOs at r
  obtain ⟨w2, ws, F3, F4, rfl, rfl, r2, r⟩ := r
  unfold RepO at r2
  obtain ⟨c, us, rfl, sq, r2⟩ := r2
  unfold RepOs at r2
  obtain ⟨u1, us, G1, G2, rfl, rfl, q1, r2⟩ := r2
  unfold RepOs at r2
  obtain ⟨u2, us, G3, G4, rfl, rfl, q2, r2⟩ := r2
  refine ⟨u2, ?_⟩
  unfold RepO
  refine ⟨a, _, _, rfl, ea, rfl, ?_⟩
  unfold RepOs
  refine ⟨w1, _, F1, _, rfl, rfl, r1, ?_⟩
  unfold RepOs
  refine ⟨.ref c, ws, _, F4, rfl, rfl, ?_, r⟩
  unfold RepO
  refine ⟨c, _, rfl, sq, ?_⟩
  unfold RepOs
  refine ⟨u1, _, G1, _, rfl, rfl, q1, ?_⟩
  unfold RepOs
  exact ⟨u2, us, G3, G4, rfl, rfl, by unfold RepO; exact ⟨rfl, q2⟩, r2⟩
theorem home_row {K : PySem.W.Frag} {H : Hp} {z : Str} {d D0 : D} {v w x : V} {F G : List Addr} (hd : Has d v D0) (h0 : RepO K H D0 w F) (h1 : RepO K H (.lst [.str z, .raw v]) x G) (nf : F.Nodup) (ng : G.Nodup) (dj : ∀ a, a ∈ F → a ∉ G) : ∃ G', RepO K H (.lst [.str z, d]) x G' ∧ G'.Nodup ∧ ∀ a, a ∈ G' → a ∈ G ∨ a ∈ F := by
  obtain ⟨F1, r1, n1, m1⟩ := hd.own h0 nf
  unfold RepO at h1
  obtain ⟨a, vs, G0, rfl, ea, rfl, r⟩ := h1
  unfold RepOs at r
  obtain ⟨w1, ws, A1, A2, rfl, rfl, q1, r⟩ := r
  unfold RepOs at r
  obtain ⟨w2, ws, A3, A4, rfl, rfl, q2, r⟩ := r
  unfold RepOs at r
  obtain ⟨rfl, rfl⟩ := r
  unfold RepO at q2
  obtain ⟨rfl, rfl⟩ := q2
  have q1' := q1
  unfold RepO at q1'
  obtain ⟨rfl, rfl⟩ := q1'
  refine ⟨a :: F1, ?_, List.nodup_cons.mpr ⟨fun z => dj a (m1 a z) List.mem_cons_self, n1⟩, fun y hy => ?_⟩
  · unfold RepO
    refine ⟨a, _, F1, rfl, ea, rfl, ?_⟩
    unfold RepOs
    refine ⟨.str z, _, [], F1, rfl, rfl, q1, ?_⟩
    exact RepOs.one r1
  · rcases List.mem_cons.mp hy with rfl | hy
    · exact .inl List.mem_cons_self
    · exact .inr (m1 y hy)
set_option maxHeartbeats 0 in
theorem ok_Desk_tell {f C : Addr} {fd : FuncData} (Fn : FunD K "tell" "Desk.tell" (defArgs s_Desk_tell) (defBody s_Desk_tell) (defScope s_Desk_tell) [] [] f fd) {kv : List (Str × D)} (SY : DicN K w mg "SAYERS" kv) (hkv : kv.map (·.1) = (["minor", "gaps", "answers", "turning", "least", "way", "level", "along"] : List Str)) {f1 f2 f3 : Addr} {fd1 fd2 fd3 : FuncData} (LI : DefAt P w K mg base CX0 6 "line_in" p_line_in f1 fd1 [] F_line_in) (MF : MethAt P w K mg base 1 C "found" p_Desk_found f2 fd2 [] (F_Desk_found C)) (MK : MethT3 P w K mg base 4 C "keep" p_Desk_keep f3 fd3 (F_Desk_keep C)) : FnOk P w K mg base CX0 8 f fd p_Desk_tell (spI K (F_Desk_tell C)) := by
  refine fun_okI Fn sc_Desk_tell (fun d0 ds q hF => ?_) fun cdv A outer s0 H E hr d0 ds k hF => ?_
  · obtain ⟨_, _, _, _, _, _, _, ⟨e, _⟩ | ⟨e, _⟩⟩ := hF <;> rw [e] <;> rfl
  obtain ⟨z, r, ks, l, rfl, hz, hr0, hc⟩ := hF
  have nd := sc_Desk_tell.nd
  have hu := hr.units
  have syno : ∀ u : Str, u ∉ (["minor", "gaps", "answers", "turning", "least", "way", "level", "along"] : List Str) → ∀ d, (u, d) ∉ kv := fun u hn d h => hn (by rw [← hkv]; exact List.mem_map.mpr ⟨_, h, rfl⟩)
  obtain ⟨tx, etx⟩ : ∃ tx, ds = [.str tx] := by rcases hc with ⟨e, _⟩ | ⟨e, _⟩ <;> exact ⟨_, e⟩
  subst etx
  refine sv_ghost 0 (D0 := dsk C ks l) (fun D1 => ∃ b vs, vs.length = l.length ∧ D1 = dskD C b ks (nams l vs)) rfl rfl (fun H w F r _ => ?_) fun D1 ⟨b, vs, hvs, e⟩ => ?_
  · obtain ⟨b, vs, hv, rb⟩ := dsk_name r
    exact ⟨_, ⟨b, vs, hv, rfl⟩, rb⟩
  subst e
  refine sv_norm (ss' := [.own (dskD C b ks (nams l vs)), .par (.str tx), .no, .no, .no, .no, .no, .no]) (by rfl) ?_
  rcases hc with ⟨e, hzk, hkl, hk⟩ | ⟨e, hzk, lk, hk⟩
  · have etx : tx = ("row" : Str) ++ " " ++ (z ++ " = " ++ rowT r) := by injection e with e _; injection e
    refine sv_cons (s1_tryN rfl (sv_one (s1_asg (as := [2, 3]) (cCall LI hr (by decide) <| av_cons <| nm 1 <| av_nil (.inl ⟨z, r, by rw [etx]; rfl, ⟨hz, hr0⟩, gv_tup rfl rfl <| gs_cons <| gOne 2 nd <| gs_cons <| gOne 3 nd <| gs_nil ?_⟩)) (by decide))))
    refine sv_norm (ss' := [.own (dskD C b ks (nams l vs)), .par (.str tx), .own (.str "row"), .own (.lst [.tup [.str "n", .str z], .tup [.str "x", rowD r]]), .no, .no, .no, .no]) (by rfl) ?_
    refine sv_ghost 3 (D0 := .lst [.tup [.str "n", .str z], .tup [.str "x", rowD r]]) (fun D1 => ∃ v, D1 = .lst [.tup [.str "n", .str z], .tup [.str "x", .nam (rowD r) v]]) rfl rfl (fun H w F r _ => ?_) fun D1 ⟨v, e⟩ => ?_
    · obtain ⟨v, q⟩ := sig_name r
      exact ⟨_, ⟨v, rfl⟩, q⟩
    subst e
    refine sv_norm (ss' := [.own (dskD C b ks (nams l vs)), .par (.str tx), .own (.str "row"), .own (.lst [.tup [.str "n", .str z], .tup [.str "x", .nam (rowD r) v]]), .no, .no, .no, .no]) (by rfl) ?_
    refine sv_cons (sSetLc 4 [("sign", 6), ("thing", 7)] nd (blkOk_by (N := n_Desk_tell) (sc := defScope s_Desk_tell) (by decide +kernel)) <| wLstV <| nm 3 ⟨_, rfl, fun i s acc => s = [.own (dskD C b ks (nams l vs)), .par (.str tx), .own (.str "row"), .own (.lst [.tup [.str "n", .str z], .tup [.str "x", .nam (rowD r) v]]), .no, .no, .no, .no] ∧ acc = ([.str z, .raw v] : List D).take i, ⟨rfl, rfl⟩, ?_, ?_⟩)
    · rintro i el s acc hel ⟨rfl, rfl⟩ s0 H0 C0 cl fp
      match i, hel with
      | 0, hel =>
        cases hel
        refine gv_tupV (o := .v 3) rfl rfl (gs_cons (gOne 6 nd (gs_cons (gOne 7 nd (gs_nil ?_))))) rfl rfl
        exact fun s0 H0 C0 cl fp => tsv_nil ⟨fun _ s0 H0 C0 cl fp => cMeth MF hr (by decide) <| nm 0 ⟨rfl, by decide, av_cons <| nm 6 <| av_cons <| nm 7 <| av_nil ⟨b, ks, nams l vs, "n", .str z, rfl, .inl ⟨.inl rfl, .inl ⟨z, rfl⟩⟩, _, rfl, (by show 0 < 1000000; decide), rfl, rfl⟩⟩, fun z => (nomatch z)⟩
      | 1, hel =>
        cases hel
        refine gv_tupV (o := .v 3) rfl rfl (gs_cons (gOne 6 nd (gs_cons (gOne 7 nd (gs_nil ?_))))) rfl rfl
        exact fun s0 H0 C0 cl fp => tsv_nil ⟨fun _ s0 H0 C0 cl fp => cMeth MF hr (by decide) <| nm 0 ⟨rfl, by decide, av_cons <| nm 6 <| av_cons <| eRawN <| vV 7 (ow := .v 3) (d := .nam (rowD r) v) ⟨_, _, .inr (.inr ⟨_, rfl⟩), av_nil ⟨b, ks, nams l vs, "x", .raw v, rfl, .inl ⟨.inr rfl, .inr ⟨v, rfl⟩⟩, _, rfl, (by show 1 < 1000000; decide), rfl, rfl⟩⟩⟩, fun z => (nomatch z)⟩
      | i + 2, hel => cases hel
    rintro s acc ⟨rfl, rfl⟩
    refine ⟨rfl, rfl, ?_⟩
    refine sv_norm (ss' := [.own (dskD C b ks (nams l vs)), .par (.str tx), .own (.str "row"), .own (.lst [.tup [.str "n", .str z], .tup [.str "x", .nam (rowD r) v]]), .own (.lst [.str z, .raw v]), .no, .no, .no]) (by rfl) ?_
    have hd : Has (rowD r) v (.lst [.tup [.str "n", .str z], .tup [.str "x", .nam (rowD r) v]]) := .lst (x := .tup [.str "x", .nam (rowD r) v]) (.tail _ (.head _)) (.tup (x := .nam (rowD r) v) (.tail _ (.head _)) .here)
    refine sv_home 3 4 (D0 := .lst [.tup [.str "n", .str z], .tup [.str "x", .nam (rowD r) v]]) (E0 := .lst [.str z, .raw v]) (E1 := .lst [.str z, rowD r]) (by decide) rfl rfl rfl rfl (fun H w F x G h0 h1 nf ng dj => home_row hd h0 h1 nf ng dj) ?_
    refine sv_norm (ss' := [.own (dskD C b ks (nams l vs)), .par (.str tx), .own (.str "row"), .no, .own (.lst [.str z, rowD r]), .no, .no, .no]) (by rfl) ?_
    refine sv_cons (s1_if <| eIn <| nm 2 <| dTup <| av_cons <| ev_str <| av_cons <| ev_str <| av_cons <| ev_str <| av_nil ⟨rfl, _, _, rfl, rfl, fun q => ?_, fun _ => sv_nil ?_⟩)
    · exact absurd (show inV (V.str "row") [.str "ask", .str "why", .str "judge"] = true from q) (by decide +kernel)
    refine sv_cons (s1_if <| tInN SY <| nm 2 ⟨fun ⟨d, hd⟩ => absurd hd (syno _ (by decide +kernel) d), fun _ => ⟨fun q => (nomatch q), fun _ => sv_nil ?_⟩⟩)
    exact sv_one (s1_ret <| cMethT3 MK 0 hr (by decide) <| nm 2 <| vM 4 ⟨_, _, _, rfl, rfl, .inl rfl, rfl, rfl, z, ks, l, dsk_un hvs, .inl ⟨rfl, rowD r, rfl, hzk, hkl, _, _, rfl, rfl, hk⟩⟩)
  · have etx : tx = ("show" : Str) ++ " " ++ z := by injection e with e _; injection e
    refine sv_cons (s1_tryN rfl (sv_one (s1_asg (as := [2, 3]) (cCall LI hr (by decide) <| av_cons <| nm 1 <| av_nil (.inr ⟨z, by rw [etx]; rfl, hz, gv_tup rfl rfl <| gs_cons <| gOne 2 nd <| gs_cons <| gOne 3 nd <| gs_nil ?_⟩)) (by decide))))
    refine sv_norm (ss' := [.own (dskD C b ks (nams l vs)), .par (.str tx), .own (.str "show"), .own (.lst [.tup [.str "e", .str z]]), .no, .no, .no, .no]) (by rfl) ?_
    refine sv_cons (sSetLc 4 [("sign", 6), ("thing", 7)] nd (blkOk_by (N := n_Desk_tell) (sc := defScope s_Desk_tell) (by decide +kernel)) <| wLstV <| nm 3 ⟨_, rfl, fun i s acc => s = [.own (dskD C b ks (nams l vs)), .par (.str tx), .own (.str "show"), .own (.lst [.tup [.str "e", .str z]]), .no, .no, .no, .no] ∧ acc = ([.str z] : List D).take i, ⟨rfl, rfl⟩, ?_, ?_⟩)
    · rintro i el s acc hel ⟨rfl, rfl⟩ s0 H0 C0 cl fp
      match i, hel with
      | 0, hel =>
        cases hel
        refine gv_tupV (o := .v 3) rfl rfl (gs_cons (gOne 6 nd (gs_cons (gOne 7 nd (gs_nil ?_))))) rfl rfl
        exact fun s0 H0 C0 cl fp => tsv_nil ⟨fun _ s0 H0 C0 cl fp => cMeth MF hr (by decide) <| nm 0 ⟨rfl, by decide, av_cons <| nm 6 <| av_cons <| nm 7 <| av_nil ⟨b, ks, nams l vs, "e", .str z, rfl, .inr ⟨rfl, z, rfl, hzk⟩, _, rfl, (by show 0 < 1000000; decide), rfl, rfl⟩⟩, fun z => (nomatch z)⟩
      | i + 1, hel => cases hel
    rintro s acc ⟨rfl, rfl⟩
    refine ⟨rfl, rfl, ?_⟩
    refine sv_norm (ss' := [.own (dskD C b ks (nams l vs)), .par (.str tx), .own (.str "show"), .own (.lst [.tup [.str "e", .str z]]), .own (.lst [.str z]), .no, .no, .no]) (by rfl) ?_
    refine sv_cons (s1_if <| eIn <| nm 2 <| dTup <| av_cons <| ev_str <| av_cons <| ev_str <| av_cons <| ev_str <| av_nil ⟨rfl, _, _, rfl, rfl, fun q => ?_, fun _ => sv_nil ?_⟩)
    · exact absurd (show inV (V.str "show") [.str "ask", .str "why", .str "judge"] = true from q) (by decide +kernel)
    refine sv_cons (s1_if <| tInN SY <| nm 2 ⟨fun ⟨d, hd⟩ => absurd hd (syno _ (by decide +kernel) d), fun _ => ⟨fun q => (nomatch q), fun _ => sv_nil ?_⟩⟩)
    exact sv_one (s1_ret <| cMethT3 MK 0 hr (by decide) <| nm 2 <| vM 4 ⟨_, _, _, rfl, rfl, .inl rfl, rfl, rfl, z, ks, l, dsk_un hvs, .inr ⟨rfl, r, rfl, lk, hr0, fun b2 vs2 h2 => ⟨_, _, rfl, rfl, hk b2 vs2 h2⟩⟩⟩)
end
end K79
namespace K79
open PySem PySem.Spec PyProof.Rows L2 DL K03
section
variable {P : Program} {w : World} {K : PySem.W.Frag} {mg : Str → Option Value} {base : Heap}
def F_read_table (C : Addr) : List D → (D → Prop) → Prop := fun ds k => ∃ R, ds = [.str (tabT R)] ∧ (R ≠ [] ∧ R.length ≤ 10 ∧ ∀ r, r ∈ R → Rw r) ∧ Sq R ∧ k (tblD C R)
theorem ok_read_table {f C : Addr} {fd : FuncData} (Fn : FunD K "read_table" "read_table" (defArgs s_read_table) (defBody s_read_table) (defScope s_read_table) [] [] f fd) {f1 f2 : Addr} {fd1 fd2 : FuncData} (RR : DefAt P w K mg base CX0 5 "read_rows" p_read_rows f1 fd1 [] F_read_rows) (Mk : MakeAt P w K mg base 1 "Table" C p_Table___init__ f2 fd2 (F_Table___init__ C)) : FnOk P w K mg base CX0 6 f fd p_read_table (spP K (F_read_table C)) := by
  refine fun_okP Fn sc_read_table (fun ds q ⟨_, e, _⟩ => by rw [e]; rfl) fun cdv A outer s H E hr ds k hF => ?_
  obtain ⟨R, rfl, hR, hS, hk⟩ := hF
  exact sv_one (s1_tryN rfl (sv_one (s1_ret <| cMake Mk hr (by decide) <| av_cons <| cCall RR hr (by decide) <| av_cons <| nm 0 <| av_nil ⟨R, rfl, hR, av_nil ⟨R, rfl, rfl, hS, rfl, _, rfl, hk⟩⟩)))
def Wh (x : Rat) : Prop := x.den = 1 ∧ x.num.natAbs ≤ 9
theorem Wh.nm {x : Rat} (h : Wh x) : Nm x := ⟨Nat.lt_of_le_of_lt h.2 (by decide +kernel), by rw [h.1]; decide +kernel⟩
theorem Wh.txt {x : Rat} (h : Wh x) : istr x.num = numT x := by
  unfold numT
  rw [if_pos h.1]
theorem pl_fqs {n : Nat} {r : List Rat} : D.pls (n + 1) (r.map fq) = true := pls_map fun x _ => (by unfold fq; rfl)
theorem pl_rowD {n : Nat} {r : List Rat} : (rowD r).pl (n + 2) = true := pl_lst pl_fqs
theorem pl_tup3 {n : Nat} {u : Str} (hu : (D.str u).pl n = true) {l : List D} (hl : D.pls n l = true) : (D.tup (.str u :: l)).pl (n + 1) = true := pl_tup (by
  have e : D.pls n (.str u :: l) = ((D.str u).pl n && D.pls n l) := rfl
  rw [e, hu, hl]
  rfl)
theorem pls1 {n : Nat} {d : D} (h : d.pl n = true) : D.pls n [d] = true := by
  have e : D.pls n [d] = (d.pl n && true) := rfl
  rw [e, h]
  rfl
theorem pls2 {n : Nat} {d e : D} (h : d.pl n = true) (h2 : e.pl n = true) : D.pls n [d, e] = true := by
  have q : D.pls n [d, e] = (d.pl n && (e.pl n && true)) := rfl
  rw [q, h, h2]
  rfl
theorem join_one9 {y x : Str} : Txt.join y [x] = x := by
  refine str_ext ?_
  rw [TL.join_eq]
  show TL.tl (Str.join y [x]) = TL.tl x
  rw [TL.tl_join]
  rfl
theorem join_two9 {y a b : Str} : Txt.join y [a, b] = a ++ y ++ b := by
  refine str_ext ?_
  rw [TL.join_eq]
  show TL.tl (Str.join y [a, b]) = TL.tl (a ++ y ++ b)
  rw [TL.tl_join, TL.tl_append, TL.tl_append]
  show TL.tl a ++ (TL.tl y ++ TL.tl b) = _
  rw [List.append_assoc]
def F__law_by_names : List D → (D → Prop) → Prop := fun ds k => ∃ r : List Rat, ds = [rowD r] ∧ (1 ≤ r.length ∧ r.length ≤ 4 ∧ ∀ x, x ∈ r → Wh x) ∧ k (.bl true)
set_option maxHeartbeats 0 in
theorem ok__law_by_names {f C CD : Addr} {fd : FuncData} (Fn : FunD K "_law_by_names" "_law_by_names" (defArgs s__law_by_names) (defBody s__law_by_names) (defScope s__law_by_names) [] [] f fd) (T : Txt mg) {f1 f2 f3 f4 f5 f6 f7 f8 f9 f10 : Addr} {fd1 fd2 fd3 fd4 fd5 fd6 fd7 fd8 fd9 fd10 : FuncData}
    (K1 : DefK P w K mg base CX0 3 "row_text" p_row_text f1 fd1 0 ["row"] [0] [] F_row_text) (K2 : DefK P w K mg base CX0 4 "read_row" p_read_row f2 fd2 0 ["text"] [0] [] F_read_row) (K3 : DefK P w K mg base CX0 3 "saying_text" p_saying_text f3 fd3 0 ["saying"] [0] [] F_saying_text) (K4 : DefK P w K mg base CX0 5 "read_saying" p_read_saying f4 fd4 0 ["text"] [0] [] F_read_saying)
    (K5 : DefK P w K mg base CX0 4 "paper_text" p_paper_text f5 fd5 0 ["paper"] [0] [] F_paper_text) (K6 : DefK P w K mg base CX0 7 "read_paper" p_read_paper f6 fd6 0 ["text"] [0] [] F_read_paper) (K7 : DefK P w K mg base CX0 6 "read_table" p_read_table f7 fd7 0 ["text"] [0] [] (F_read_table C)) (MR : MethAt P w K mg base 1 C "rows" p_Table_rows f8 fd8 [] (F_Table_rows C))
    (DK : MakeAt P w K mg base 1 "Desk" CD p_Desk___init__ f9 fd9 (F_Desk___init__ CD)) (MT : MethIK P w K mg base 8 CD "tell" p_Desk_tell f10 fd10 "line" (F_Desk_tell CD)) : FnOk P w K mg base CX0 9 f fd p__law_by_names (spP K F__law_by_names) := by
  refine fun_okP Fn sc__law_by_names (fun ds q ⟨_, e, _⟩ => by rw [e]; rfl) fun cdv A outer s0 H E hr ds k hF => ?_
  obtain ⟨r, rfl, ⟨h1, h4, hw⟩, hk⟩ := hF
  have nd := sc__law_by_names.nd
  have hu := hr.units
  have hR : Rw r := ⟨fun z => by rw [z] at h1; exact absurd h1 (by decide), by omega, fun x hx => (hw x hx).nm⟩
  have rl := rw_len hR
  have sz : ∀ x, x ∈ r → Sz 1000 x := fun x hx => (hw x hx).nm.sz
  have sm := row_sum (r := r) sz (show r.length ≤ 400 by omega)
  obtain ⟨x0, hx0⟩ : ∃ x0, r[0]? = some x0 := ⟨r[0]'(by omega), by rw [List.getElem?_eq_getElem]⟩
  have w0 := hw x0 (List.mem_of_getElem? hx0)
  refine sv_cons (sSet 1 nd <| eJoin <| ev_str <| eLc [("_law_one", 3)] nd (blkOk_by (N := n__law_by_names) (sc := defScope s__law_by_names) (by decide +kernel)) <| wLst <| nm 0 ⟨_, rfl, flat_map fun _ => rfl, fun i s acc => s = [.par (rowD r), .no, .no, .no] ∧ acc = ((r.take i).map numT).map D.str, ⟨rfl, rfl⟩, ?_, ?_⟩)
  · rintro i el s acc hel ⟨rfl, rfl⟩ s0 H0 C0 cl fp
    obtain ⟨x, hx, rfl⟩ := els_get2 hel
    have hin := getElem?_lt hx
    have hxw := hw x (List.mem_of_getElem? hx)
    refine gOne 3 nd fun s0 H0 C0 cl fp => tsv_nil ⟨fun _ s0 H0 C0 cl fp => eStrI T.str <| eIx <| nm 3 <| ev_int ⟨_, rfl, rfl, Nat.lt_trans (log_ltT (k := 1000) (sz x (List.mem_of_getElem? hx)).top (by decide)) (by decide), _, rfl, ?_, rfl, ?_⟩, fun z => (nomatch z)⟩
    · rw [List.length_map, List.length_map, List.length_take]; omega
    · rw [take_next hx, List.map_append, List.map_append]
      show _ ++ [D.str (istr x.num)] = _
      rw [hxw.txt]
      rfl
  rintro s acc ⟨rfl, rfl⟩
  have tk : ∀ n, n = r.length → (r.take n).map numT = r.map numT := fun n h => by rw [h, List.take_length]
  refine ⟨r.map numT, by rw [tk _ (by rw [List.length_map, List.length_map])], Nat.le_trans sm (by decide), rfl, rfl, ?_⟩
  refine sv_norm (ss' := [.par (rowD r), .own (.str (rowT r)), .no, .no]) (by rfl) ?_
  have a9 : ("answered " : Str).length = 9 := by decide +kernel
  have b7 : ("beside " : Str).length = 7 := by decide +kernel
  have b3 : (" | " : Str).length = 3 := bar_len
  have r6 : ("row a = " : Str).length = 8 := by decide +kernel
  have px : (rowD r).pl 15 = true := pl_rowD (n := 13)
  have pa : (D.tup [.str "answered", rowD r]).pl 16 = true := pl_tup3 (n := 15) (by decide +kernel) (pls1 px)
  have pw : (D.tup [.str "wide"]).pl 16 = true := by decide +kernel
  have pb : (D.tup [.str "beside", rowD r, rowD r]).pl 16 = true := pl_tup3 (n := 15) (by decide +kernel) (pls2 px px)
  have hsh : shp "beside" ([Thg.r r, Thg.r r].map thC) := by unfold shp; show (_, [114, 114]) ∈ _; decide +kernel
  have hth : ∀ t, t ∈ [Thg.r r, Thg.r r] → thOk t := fun t ht => by
    simp only [List.mem_cons, List.not_mem_nil, or_false] at ht
    rcases ht with rfl | rfl <;> exact hR
  have ebs : pprT "beside" [Thg.r r, Thg.r r] = ("beside " : Str) ++ rowT r ++ " | " ++ rowT r := by
    unfold pprT
    have e1 : ("beside" : Str) ++ " " = ("beside " : Str) := by decide +kernel
    rw [e1]
    show ("beside " : Str) ++ Txt.join " | " [rowT r, rowT r] = _
    rw [join_two9, app_ass, app_ass, app_ass]
  have erow : (("row" : Str) ++ " " ++ (("a" : Str) ++ " = " ++ rowT r)) = ("row a = " : Str) ++ rowT r := by
    have e1 : (("row" : Str) ++ " " ++ (("a" : Str) ++ " = ")) = ("row a = " : Str) := by decide +kernel
    rw [← e1]
    simp only [app_ass]
  have eshow : (("show" : Str) ++ " " ++ ("a" : Str)) = ("show a" : Str) := by decide +kernel
  have elk : (((["a"] : List Str)).zip [rowD r]).lookup ("a" : Str) = some (rowD r) := by rw [List.zip_cons_cons, List.lookup_cons, beq_self_eq_true]
  have hnam : Nam "a" := ⟨by decide +kernel, by decide +kernel, by decide +kernel⟩
  refine sv_cons (s1_if <| tv_w <| wv_or <| tNe <| cCallK0 K1 hr (by decide) <| kv_cons <| nm 0 <| kv_nil ⟨rfl, r, rfl, nm_rw hR, nm 1 ⟨fun z => nd1 rfl z, fun _ => wv_or1 <| tNeP hu <| cCallK0 K2 hr (by decide) <| kv_cons <| nm 1 <| kv_nil ⟨rfl, r, rfl, ⟨hR.1, Nat.le_trans hR.2.1 (by decide), hR.2.2⟩, nm 0 ⟨pl_rowD (n := 14), pl_rowD (n := 14), fun z => dq1 z, fun _ => sv_nil ?_⟩⟩⟩⟩)
  refine sv_cons (s1_if <| tv_w <| wv_or <| tNe <| cCallK0 K3 hr (by decide) <| kv_cons <| eTupL <| av_cons <| ev_str <| av_cons <| nm 0 <| av_nil ⟨[.str "answered", rowD r], ⟨.inl ⟨rfl, rfl⟩, .inr rfl, trivial⟩, by show 2 ≤ 1000; decide, kv_nil ⟨rfl, .ans r, rfl, hR, eAdd <| ev_str <| nm 1 ⟨by rw [a9]; omega, fun z => nd1 rfl z, fun _ => wv_or1 <| tNe <| cCallK0 K3 hr (by decide) <| kv_cons <| dTup <| av_cons <| ev_str <| av_nil ⟨rfl, kv_nil ⟨rfl, .wd "one", rfl, .head _, ev_str ⟨fun z => nd1 rfl z, fun _ => sv_nil ?_⟩⟩⟩⟩⟩⟩)
  refine sv_cons (s1_if <| tv_w <| wv_or <| tNeP hu <| cCallK0 K4 hr (by decide) <| kv_cons <| eAdd <| ev_str <| nm 1 ⟨by rw [a9]; omega, kv_nil ⟨rfl, .ans r, rfl, hR, eTupL <| av_cons <| ev_str <| av_cons <| nm 0 <| av_nil ⟨[.str "answered", rowD r], ⟨.inl ⟨rfl, rfl⟩, .inr rfl, trivial⟩, by show 2 ≤ 1000; decide, pa, pa, fun z => dq1 z, fun _ => wv_or1 <| tNeP hu <| cCallK0 K4 hr (by decide) <| kv_cons <| ev_str <| kv_nil ⟨rfl, .wd "wide", rfl, .tail _ (.tail _ (.tail _ (.head _))), dTup <| av_cons <| ev_str <| av_nil ⟨rfl, pw, pw, fun z => dq1 z, fun _ => sv_nil ?_⟩⟩⟩⟩⟩)
  refine sv_cons (s1_if <| tNe <| cCallK0 K5 hr (by decide) <| kv_cons <| eTupL <| av_cons <| ev_str <| av_cons <| nm 0 <| av_cons <| nm 0 <| av_nil ⟨[.str "beside", rowD r, rowD r], ⟨.inl ⟨rfl, rfl⟩, .inr rfl, .inr rfl, trivial⟩, by show 3 ≤ 1000; decide, kv_nil ⟨rfl, "beside", [.r r, .r r], rfl, ⟨hsh, hth⟩, eAdd <| eAdd <| eAdd <| ev_str <| nm 1 ⟨by rw [b7]; omega, ev_str ⟨by rw [strLen_append, b7, b3]; omega, nm 1 ⟨by rw [strLen_append, strLen_append, b7, b3]; omega, ?_, fun _ => sv_nil ?_⟩⟩⟩⟩⟩)
  · rw [ebs]
    exact fun z => nd1 rfl z
  refine sv_cons (s1_if <| tNeP hu <| cCallK0 K6 hr (by decide) <| kv_cons <| eAdd <| eAdd <| eAdd <| ev_str <| nm 1 ⟨by rw [b7]; omega, ev_str ⟨by rw [strLen_append, b7, b3]; omega, nm 1 ⟨by rw [strLen_append, strLen_append, b7, b3]; omega, kv_nil ⟨rfl, "beside", [.r r, .r r], by rw [ebs]; rfl, ⟨hsh, hth⟩, eTupL <| av_cons <| ev_str <| av_cons <| nm 0 <| av_cons <| nm 0 <| av_nil ⟨[.str "beside", rowD r, rowD r], ⟨.inl ⟨rfl, rfl⟩, .inr rfl, .inr rfl, trivial⟩, by show 3 ≤ 1000; decide, pb, pb, fun z => dq1 z, fun _ => sv_nil ?_⟩⟩⟩⟩⟩)
  refine sv_cons (sSet 2 nd <| cMake0 DK hr (by decide) ⟨rfl, rfl, rfl, rfl, rfl, ?_⟩)
  refine sv_norm (ss' := [.par (rowD r), .own (.str (rowT r)), .own (dsk CD [] []), .no]) (by rfl) ?_
  refine sv_consI (fun s => ∃ b vs, s = [.par (rowD r), .own (.str (rowT r)), .own (dskD CD b ["a"] (nams [rowD r] vs)), .no]) ?_ ?_
  · refine s1_if <| tv_w <| wv_or <| tNe <| cMethIK MT 2 hr (by decide) <| kv_cons <| eAdd <| ev_str <| nm 1 ⟨by rw [r6]; omega, kv_nil ⟨dsk CD [] [], .str (("row a = " : Str) ++ rowT r), rfl, rfl, ⟨Slot.isN_own, trivial⟩, "a", r, [], [], rfl, hnam, hR, .inl ⟨by rw [erow], by simp, by decide, ev_str ⟨fun z => nd1 rfl z, fun _ => ?_⟩⟩⟩⟩
    refine wv_or1 <| tNe <| cMethIK MT 2 hr (by decide) <| kv_cons <| ev_str <| kv_nil ⟨dsk CD ["a"] [rowD r], .str "show a", rfl, rfl, ⟨Slot.isN_own, trivial⟩, "a", r, ["a"], [rowD r], rfl, hnam, hR, .inr ⟨by rw [eshow], .head _, elk, fun b vs hv => nm 1 ⟨fun z => nd1 rfl z, fun _ => sv_nil ⟨b, vs, rfl⟩⟩⟩⟩
  rintro s ⟨b, vs, rfl⟩
  refine sv_forget [2] ?_
  refine sv_norm (ss' := [.par (rowD r), .own (.str (rowT r)), .no, .no]) (by rfl) ?_
  have hone : ∀ q, q ∈ [[x0]] → Rw q := fun q hq => by
    rw [List.mem_singleton.mp hq]
    exact ⟨(fun z => nomatch z), by show 1 ≤ 10; decide, fun x hx => by rw [List.mem_singleton.mp hx]; exact w0.nm⟩
  have hS : Sq [[x0]] := ⟨by show 1 ≤ 1; decide, by show 1 ≤ 5; decide, fun q hq => by rw [List.mem_singleton.mp hq]; rfl⟩
  have et : tabT [[x0]] = istr x0.num := by
    show Txt.join "; " [Txt.join " " [numT x0]] = _
    rw [join_one9, join_one9, w0.txt]
  have e0 : atI (r.map fq) 0 = some (fq x0) := by
    rw [show (0 : Int) = ((0 : Nat) : Int) from rfl]
    unfold atI
    rw [ixN_of (by rw [List.length_map]; omega)]
    show (r.map fq)[0]? = _
    rw [List.getElem?_map, hx0]
    rfl
  have etk : (r.map fq).take 1 = [fq x0] := by
    cases r with
    | nil => exact absurd h1 (by decide)
    | cons y r =>
      have : y = x0 := by simpa using hx0
      rw [this]
      rfl
  refine sv_one (s1_ret <| eEqP hu <| cMeth0 MR hr (by decide) <| cCallK0 K7 hr (by decide) <| kv_cons <| eStrI T.str <| eIx <| eIx <| nm 0 <| ev_int ⟨fq x0, e0, rfl, ev_int ⟨.int x0.num, rfl, rfl, Nat.lt_trans (log_ltT (k := 1000) w0.nm.sz.top (by decide)) (by decide), kv_nil ⟨rfl, [[x0]], by rw [et]; rfl, ⟨(fun z => nomatch z), by show 1 ≤ 10; decide, hone⟩, hS, rfl, by decide, [[x0]], rfl, by show 1 ≤ 1000; decide, dLst <| av_cons <| eCutTo <| nm 0 <| ev_int ⟨r.map fq, 1, rfl, flats_fq r, rfl, av_nil ⟨rfl, ?_, ?_, _, rfl, ?_⟩⟩⟩⟩⟩)
  · exact pl_lst (n := 15) (pls1 (pl_rowD (n := 13)))
  · rw [etk]
    exact pl_lst (n := 15) (pls1 (pl_rowD (n := 13) (r := [x0])))
  · rw [etk]
    have e : deq (D.lst ([[x0]].map rowD)) (D.lst [D.lst [fq x0]]) = true := deq_self
    rw [show deq (tabD [[x0]]) (D.lst [D.lst [fq x0]]) = true from e]
    exact hk
def FLaw : List D → (D → Prop) → Prop := fun ds k => ∃ ns : List Int, ns.length ≤ 63 ∧ ds = [.fz (ns.map D.int)] ∧ k (.bl true)
set_option maxHeartbeats 0 in
theorem ok_law {f : Addr} {fd : FuncData} (Fn : FunD K "law" "law" (defArgs s_law) (defBody s_law) (defScope s_law) [] [] f fd) (T : Txt mg) {f1 f2 f3 : Addr} {fd1 fd2 fd3 : FuncData}
    (Pl : DefAt P w K mg base CX0 1 "_law_pile" p__law_pile f1 fd1 [] F__law_pile) (Ta : DefI P w K mg base CX0 2 "_law_take" p__law_take f2 fd2 [] F__law_take) (BN : DefAt P w K mg base CX0 9 "_law_by_names" p__law_by_names f3 fd3 [] F__law_by_names) : FnOk P w K mg base CX0 10 f fd p_law (spP K FLaw) := by
  refine fun_okP Fn sc_law (fun ds q ⟨n, _, e, _⟩ => by rw [e]; rfl) fun cdv A outer s H E hr ds k hF => ?_
  obtain ⟨ns, hl, rfl, hk⟩ := hF
  have nd := sc_law.nd
  have big : (2 ^ 60 : Nat) = 1152921504606846976 := by decide +kernel
  refine sv_cons (sFor [1] <| wRange T.range <| ev_int ⟨by decide, fun i s => s = [.par (.fz (ns.map D.int)), .no, .no, .no], rfl, ?_, ?_⟩)
  · rintro i el s hel rfl
    obtain ⟨hi, rfl⟩ := els_range hel
    have hi : i < 20 := hi
    refine gOne 1 nd ?_
    refine sv_cons (sSet 2 nd <| cCall Pl hr (by decide) <| av_cons <| nm 0 <| av_cons <| nm 1 <| av_nil ⟨ns, i, rfl, by omega, fun d hp => ⟨rfl, rfl, ?_⟩⟩)
    refine sv_norm (ss' := [.par (.fz (ns.map D.int)), .own (.int (i : Int)), .own d, .no]) (by rfl) ?_
    refine sv_cons (s1_if <| tv_not <| tVal <| cCall BN hr (by decide) <| av_cons <| eLc [("_law_k", 3)] nd (blkOk_by (N := n_law) (sc := defScope s_law) (by decide +kernel)) <| wRange T.range <| eAdd <| ev_int <| cCallI Ta 2 hr (by decide) <| av_cons <| ev_int <| av_nil ⟨_, rfl, rfl, _, 4, rfl, ⟨hp, by decide, by decide, by omega⟩, fun d1 r1 hp1 h1 h1' => ⟨⟨by omega, by omega⟩, fun j s acc => ∃ (d : D) (r : List Rat), Pile (10102 + j) d ∧ s = [.par (.fz (ns.map D.int)), .own (.int (i : Int)), .own d, .no] ∧ acc = r.map fq ∧ r.length = j ∧ (∀ x, x ∈ r → Wh x), ⟨d1, [], hp1.up (by omega), rfl, rfl, rfl, (fun _ z => nomatch z)⟩, ?_, ?_⟩⟩)
    · rintro j el s acc hel ⟨d2, r, hp2, rfl, rfl, hrl, hrw⟩ s0 H0 C0 cl fp
      obtain ⟨hj, rfl⟩ := els_range hel
      have hj4 : j < 4 := by omega
      refine gOne 3 nd fun s0 H0 C0 cl fp => tsv_nil ⟨fun _ s0 H0 C0 cl fp => dTup <| av_cons <| eSub <| cCallI Ta 2 hr (by decide) <| av_cons <| ev_int <| av_nil ⟨_, rfl, rfl, _, 19, rfl, ⟨hp2, by decide, by decide, by omega⟩, fun d3 r3 hp3 h3 h3' => ev_int <| av_cons <| ev_int <| av_nil ⟨rfl, _, rfl, by rw [List.length_map]; omega, d3, r ++ [Rat.ofInt (r3 - 9)], hp3.up (by omega), rfl, by rw [List.map_append]; rfl, by rw [List.length_append, hrl]; rfl, fun x hx => ?_⟩⟩, fun z => (nomatch z)⟩
      rcases List.mem_append.mp hx with hx | hx
      · exact hrw x hx
      · rw [List.mem_singleton.mp hx]
        refine ⟨rfl, ?_⟩
        show (r3 - 9).natAbs ≤ 9
        omega
    rintro s acc ⟨d2, r, hp2, rfl, rfl, hrl, hrw⟩
    rw [len_range] at hrl hp2
    exact av_nil ⟨r, rfl, ⟨by omega, by omega, hrw⟩, fun z => (nomatch z), fun _ => sv_nil (sv_forget [1, 2] (sv_nil rfl))⟩
  rintro s rfl
  refine sv_norm (ss' := [.par (.fz (ns.map D.int)), .no, .no, .no]) (by rfl) ?_
  exact sv_one (s1_ret <| ev_bl ⟨_, rfl, hk⟩)
end
end K79
namespace DL
open PySem PySem.Spec PyProof.Rows L2
theorem SaysT.strs {tb : List (Str × List He.Dv)} {fa : List He.Fa} {fn : List He.DefD} {K : PySem.W.Frag} {h : Heap} {mg : Str → Option Value} (X : K.In h) (G : h.Ns mainGlobals mg) (c : SaysT tb fa fn K) (i : Nat) {x : Str} {l : List Str} (e : tb[i]? = some (x, l.map He.Dv.str) := by rfl) : GloD K mg x (.tup (l.map D.str)) := by
  obtain ⟨c1, c2⟩ := c.tup i e
  refine ⟨_, .ref (He.ga K x), He.glo_ok X G c1, rfl, fun H => ?_⟩
  unfold RepO
  exact ⟨_, _, rfl, He.tupB_ok c2 H, by rw [show ((x, l.map He.Dv.str).2.map (He.Dv.v K)) = l.map V.str from by rw [List.map_map]; rfl]; exact reps_ofStrs l⟩
end DL
set_option maxHeartbeats 0
namespace K79
open PySem PySem.Spec PyProof.Rows L2 DL
def d_divisor : He.DefD := ⟨("divisor", none), "divisor", "divisor", defArgs s_divisor, defBody s_divisor, defScope s_divisor, [], []⟩
def d_lowest : He.DefD := ⟨("lowest", none), "lowest", "lowest", defArgs s_lowest, defBody s_lowest, defScope s_lowest, [.int 1], []⟩
def d_fraction_text : He.DefD := ⟨("fraction_text", none), "fraction_text", "fraction_text", defArgs s_fraction_text, defBody s_fraction_text, defScope s_fraction_text, [], []⟩
def d_numbers_text : He.DefD := ⟨("numbers_text", none), "numbers_text", "numbers_text", defArgs s_numbers_text, defBody s_numbers_text, defScope s_numbers_text, [], []⟩
def d_row_text : He.DefD := ⟨("row_text", none), "row_text", "row_text", defArgs s_row_text, defBody s_row_text, defScope s_row_text, [], []⟩
def d_rows_text : He.DefD := ⟨("rows_text", none), "rows_text", "rows_text", defArgs s_rows_text, defBody s_rows_text, defScope s_rows_text, [], []⟩
def d_parts_text : He.DefD := ⟨("parts_text", none), "parts_text", "parts_text", defArgs s_parts_text, defBody s_parts_text, defScope s_parts_text, [], []⟩
def d_saying_text : He.DefD := ⟨("saying_text", none), "saying_text", "saying_text", defArgs s_saying_text, defBody s_saying_text, defScope s_saying_text, [], []⟩
def d_paper_text : He.DefD := ⟨("paper_text", none), "paper_text", "paper_text", defArgs s_paper_text, defBody s_paper_text, defScope s_paper_text, [], []⟩
def d_Table___init__ : He.DefD := ⟨("Table", some "__init__"), "__init__", "Table.__init__", defArgs s_Table___init__, defBody s_Table___init__, defScope s_Table___init__, [], []⟩
def d_Table_rows : He.DefD := ⟨("Table", some "rows"), "rows", "Table.rows", defArgs s_Table_rows, defBody s_Table_rows, defScope s_Table_rows, [], []⟩
def d_read_count : He.DefD := ⟨("read_count", none), "read_count", "read_count", defArgs s_read_count, defBody s_read_count, defScope s_read_count, [], []⟩
def d_read_fraction : He.DefD := ⟨("read_fraction", none), "read_fraction", "read_fraction", defArgs s_read_fraction, defBody s_read_fraction, defScope s_read_fraction, [], []⟩
def d_read_row : He.DefD := ⟨("read_row", none), "read_row", "read_row", defArgs s_read_row, defBody s_read_row, defScope s_read_row, [], []⟩
def d_read_rows : He.DefD := ⟨("read_rows", none), "read_rows", "read_rows", defArgs s_read_rows, defBody s_read_rows, defScope s_read_rows, [], []⟩
def d_read_part : He.DefD := ⟨("read_part", none), "read_part", "read_part", defArgs s_read_part, defBody s_read_part, defScope s_read_part, [], []⟩
def d_read_parts : He.DefD := ⟨("read_parts", none), "read_parts", "read_parts", defArgs s_read_parts, defBody s_read_parts, defScope s_read_parts, [], []⟩
def d_read_saying : He.DefD := ⟨("read_saying", none), "read_saying", "read_saying", defArgs s_read_saying, defBody s_read_saying, defScope s_read_saying, [], []⟩
def d_read_paper : He.DefD := ⟨("read_paper", none), "read_paper", "read_paper", defArgs s_read_paper, defBody s_read_paper, defScope s_read_paper, [], []⟩
def d_read_table : He.DefD := ⟨("read_table", none), "read_table", "read_table", defArgs s_read_table, defBody s_read_table, defScope s_read_table, [], []⟩
def d_sure_name : He.DefD := ⟨("sure_name", none), "sure_name", "sure_name", defArgs s_sure_name, defBody s_sure_name, defScope s_sure_name, [], []⟩
def d_things_in : He.DefD := ⟨("things_in", none), "things_in", "things_in", defArgs s_things_in, defBody s_things_in, defScope s_things_in, [], []⟩
def d_given_in : He.DefD := ⟨("given_in", none), "given_in", "given_in", defArgs s_given_in, defBody s_given_in, defScope s_given_in, [], []⟩
def d_line_in : He.DefD := ⟨("line_in", none), "line_in", "line_in", defArgs s_line_in, defBody s_line_in, defScope s_line_in, [], []⟩
def d_Desk___init__ : He.DefD := ⟨("Desk", some "__init__"), "__init__", "Desk.__init__", defArgs s_Desk___init__, defBody s_Desk___init__, defScope s_Desk___init__, [], []⟩
def d_Desk_found : He.DefD := ⟨("Desk", some "found"), "found", "Desk.found", defArgs s_Desk_found, defBody s_Desk_found, defScope s_Desk_found, [], []⟩
def d_Desk_keep : He.DefD := ⟨("Desk", some "keep"), "keep", "Desk.keep", defArgs s_Desk_keep, defBody s_Desk_keep, defScope s_Desk_keep, [], []⟩
def d_Desk_tell : He.DefD := ⟨("Desk", some "tell"), "tell", "Desk.tell", defArgs s_Desk_tell, defBody s_Desk_tell, defScope s_Desk_tell, [], []⟩
def d__law_mixed : He.DefD := ⟨("_law_mixed", none), "_law_mixed", "_law_mixed", defArgs s__law_mixed, defBody s__law_mixed, defScope s__law_mixed, [], []⟩
def d__law_pile : He.DefD := ⟨("_law_pile", none), "_law_pile", "_law_pile", defArgs s__law_pile, defBody s__law_pile, defScope s__law_pile, [], []⟩
def d__law_take : He.DefD := ⟨("_law_take", none), "_law_take", "_law_take", defArgs s__law_take, defBody s__law_take, defScope s__law_take, [], []⟩
def d__law_by_names : He.DefD := ⟨("_law_by_names", none), "_law_by_names", "_law_by_names", defArgs s__law_by_names, defBody s__law_by_names, defScope s__law_by_names, [], []⟩
def d_law : He.DefD := ⟨("law", none), "law", "law", defArgs s_law, defBody s_law, defScope s_law, [], []⟩
def fn : List He.DefD := [d_divisor, d_lowest, d_fraction_text, d_numbers_text, d_row_text, d_rows_text, d_parts_text, d_saying_text, d_paper_text, d_Table___init__, d_Table_rows, d_read_count, d_read_fraction, d_read_row, d_read_rows, d_read_part, d_read_parts, d_read_saying, d_read_paper, d_read_table, d_sure_name, d_things_in, d_given_in, d_line_in, d_Desk___init__, d_Desk_found, d_Desk_keep, d_Desk_tell, d__law_mixed, d__law_pile, d__law_take, d__law_by_names, d_law]
def tb : List (Str × List He.Dv) := [("PLAIN_texts", [.str "one", .str "few", .str "alone", .str "wide", .str "level"])]
def dc : List TabD := [("SHAPES", [("minors", .str "r"), ("two", .str "rrr"), ("between", .str "rrr"), ("weights", .str "l"), ("beside", .str "rr"), ("lift", .str "r"), ("hold", .str "r"), ("squares", .str "s"), ("dip", .str "r"), ("answer", .str "r"), ("bars", .str "l")]), ("WRITERS", [("r", .glo "row_text"), ("l", .glo "rows_text"), ("s", .glo "parts_text")]), ("READERS", [("r", .glo "read_row"), ("l", .glo "read_rows"), ("s", .glo "read_parts")]), ("SIGNS", [("drop", .str "e"), ("show", .str "e"), ("names", .str ""), ("turn", .str "nt"), ("exchange", .str "ntc"), ("minor", .str "tc"), ("gaps", .str "trr"), ("answers", .str "tr"), ("turning", .str "t"), ("least", .str "tr"), ("way", .str "tr"), ("level", .str "tr"), ("along", .str "trr")]), ("SAYERS", [("minor", .glo "say_minor"), ("gaps", .glo "say_gaps"), ("answers", .glo "say_answers"), ("turning", .glo "say_turning"), ("least", .glo "say_least"), ("way", .glo "say_way"), ("level", .glo "say_level"), ("along", .glo "say_along")])]
def fa : List He.Fa := [.glo "divisor", .glo "lowest", .glo "fraction_text", .glo "numbers_text", .glo "row_text", .glo "rows_text", .glo "parts_text", .glo "saying_text", .glo "paper_text", .glo "read_count", .glo "read_fraction", .glo "read_row", .glo "read_rows", .glo "read_part", .glo "read_parts", .glo "read_saying", .glo "read_paper", .glo "read_table", .glo "sure_name", .glo "things_in", .glo "given_in", .glo "line_in", .glo "_law_mixed", .glo "_law_pile", .glo "_law_take", .glo "_law_by_names", .glo "law", .free "len", .free "range", .free "str", .free "isinstance", .free "list", .free "sorted", .free "sum", .free "abs", .free "int", .free "bool", .free "tuple", .free "divmod", .free "zip", .free "enumerate", .free "max", .free "min", .free "any", .free "all", .free "ValueError", .glo "Table", .cls "Table", .noat "Table" "kept", .glo "Desk", .cls "Desk", .noat "Desk" "held", .mkr "Table", .meth "Table" "rows", .mkr "Desk", .meth "Desk" "found", .meth "Desk" "keep", .meth "Desk" "tell", .glo "NoText", .exc "NoText", .int "MOST_FIGURES" 40, .str "FIGURES" "0123456789", .str "LETTERS" "abcdefghijklmnopqrstuvwxyz"]
abbrev R : PySem.W.OpenRow := PySem.W.OpenLaw.row PySem.Challenge.rw_eitherslack_k79_texts_by_names
abbrev hk : PySem.W.Hook := hookV 4 (withTxt (fun _ => true) ["Table"]) tb fa fn dc
def ob (s : PySem.W.SharedT) : AlV := obsVG 4 (withTxt (fun _ => true) ["Table"]) tb fa fn dc (HandSHeadRun.getT s)
theorem ob_eq (s : PySem.W.SharedT) : ob s = hk.obs s.abs := obsVG_eq (HandSHeadRun.getT_eq s)
abbrev lo0 : List Str := ["SlackError", "NoNumber", "NoTable", "NoRow", "NoChoice", "Flat", "NoSaying", "Lifted", "NoCover", "Dipped", "NotOne", "NoText", "NoLine", "NoName", "NOUGHT", "ONE", "divisor", "lowest", "plus", "turned_about", "minus", "product", "divided", "below", "total", "sum_of_products", "put_together", "taken_times", "no_lower", "noughts"]
abbrev lo1 : List Str := ["is_choice", "places_of", "places_beside", "choice_of", "choices", "without", "first_row", "cleared", "determinant", "led_to", "led_to_noughts", "ones", "inverse", "fraction_text", "numbers_text", "Table", "look_at_row", "look_at_choice", "FIGURES", "MOST_FIGURES", "PLAIN_texts", "SHAPES", "row_text", "rows_text", "parts_text", "saying_text", "WRITERS", "paper_text", "read_count", "read_fraction"]
abbrev lo2 : List Str := ["read_row", "read_rows", "read_part", "read_parts", "READERS", "read_table", "read_saying", "read_paper", "gaps", "fits", "are_apart", "is_answer", "pressed", "first_flat", "choice_of_presses", "answers_of_few", "all_answers", "multiplied", "laid", "look_at_exchange", "exchanged", "PLAIN_sayings", "look_at_saying", "column_sums", "dip_of", "are_weights", "lifts_at", "lifts_none", "squares_of", "doubled"]
abbrev lo3 : List Str := ["halved", "less_square", "back_through", "dip_in", "above_nought", "squares_or_dip", "Columns", "either", "first_by_size", "spread", "spread_finder", "upper", "two_answers", "settled_one", "settled_few", "alone_at", "settled_alone", "settled_wide", "settled_level", "answered_at", "settled_answered", "WAYS", "settled", "is_word", "for_one", "for_few", "are_two", "against_one", "against_few", "lifts_alone"]
abbrev lo4 : List Str := ["for_alone", "against_alone", "for_wide", "against_wide", "for_level", "against_level", "for_answered", "bars_choice", "against_answered", "FOR", "AGAINST", "judge", "look_at_least", "spread_least", "first_low", "weights_behind", "least_answer", "Piece", "look_at_one", "along", "is_clean_answer", "clean", "sign_of", "powers", "clean_start", "turning", "Way", "Rim", "is_ahead", "look_at_cover"]
abbrev lo5 : List Str := ["along_rim", "way", "level_answer", "LETTERS", "SIGNS", "sure_name", "sure_choice", "things_in", "given_in", "saying_in", "asked_in", "line_in", "saying_of", "piece_text", "say_minor", "say_gaps", "say_answers", "say_turning", "say_least", "say_way", "say_level", "say_along", "SAYERS", "Desk", "_law_mixed", "_law_pile", "_law_take", "_law_by_names"]
abbrev loose : List Str := lo0 ++ lo1 ++ lo2 ++ lo3 ++ lo4 ++ lo5
def wW (w : World) (b : Bool) : World := { w with params := { w.params with followText := fun s => if s = "special-get-raises" then b else w.params.followText s } }
theorem wW_eq (w : World) : wW w (w.params.followText "special-get-raises") = w := by
  have e : (fun s : String => if s = "special-get-raises" then w.params.followText "special-get-raises" else w.params.followText s) = w.params.followText := by
    funext s
    split
    · next h => rw [h]
    · rfl
  unfold wW
  rw [e]
theorem runT (w : World) : HandSHeadRun.RunEq R (PySem.W.view R.prog [199]) hk ob 40000 K79.loose (wW w true) := by
  intro os
  kernel_rfl
theorem runF (w : World) : HandSHeadRun.RunEq R (PySem.W.view R.prog [199]) hk ob 40000 K79.loose (wW w false) := by
  intro os
  kernel_rfl
theorem run (w : World) : HandSHeadRun.RunEq R (PySem.W.view R.prog [199]) hk ob 40000 K79.loose w := by
  have h := wW_eq w
  cases e : w.params.followText "special-get-raises" with
  | true => rw [e] at h; rw [← h]; exact runT w
  | false => rw [e] at h; rw [← h]; exact runF w
theorem facts {P : Program} {w : World} {K : PySem.W.Frag} {h : Heap} {mg : Str → Option Value} {f : Addr} (X : K.In h) (G : h.Ns mainGlobals mg) (hfa : mg ("law" : Str) = some (.ref f)) (cT : SaysV (withTxt (fun _ => true) ["Table"]) tb fa fn dc w K) :
    ∃ fd : FuncData, (∀ (s : Shared) (v : Value), BindsTo s fd ⟨[v], []⟩ [("_law_script", v)]) ∧ ∀ base : Heap, K.In base → base.Ns mainGlobals mg → FnOk P w K mg base CX0 10 f fd ["_law_script"] (spP K FLaw) := by
  have cV := cT
  obtain ⟨cx, cT⟩ := cT.ex
  obtain ⟨cx, ctx⟩ := He.ba cx
  have c := cT.says
  obtain ⟨fd_divisor, FD_divisor⟩ := c.def_ 0 (d := d_divisor) rfl
  have g_divisor := He.glo_ok X G (c.fact 0 (f := .glo "divisor") rfl)
  obtain ⟨fd_lowest, FD_lowest⟩ := c.def_ 1 (d := d_lowest) rfl
  have g_lowest := He.glo_ok X G (c.fact 1 (f := .glo "lowest") rfl)
  obtain ⟨fd_fraction_text, FD_fraction_text⟩ := c.def_ 2 (d := d_fraction_text) rfl
  have g_fraction_text := He.glo_ok X G (c.fact 2 (f := .glo "fraction_text") rfl)
  obtain ⟨fd_numbers_text, FD_numbers_text⟩ := c.def_ 3 (d := d_numbers_text) rfl
  have g_numbers_text := He.glo_ok X G (c.fact 3 (f := .glo "numbers_text") rfl)
  obtain ⟨fd_row_text, FD_row_text⟩ := c.def_ 4 (d := d_row_text) rfl
  have g_row_text := He.glo_ok X G (c.fact 4 (f := .glo "row_text") rfl)
  obtain ⟨fd_rows_text, FD_rows_text⟩ := c.def_ 5 (d := d_rows_text) rfl
  have g_rows_text := He.glo_ok X G (c.fact 5 (f := .glo "rows_text") rfl)
  obtain ⟨fd_parts_text, FD_parts_text⟩ := c.def_ 6 (d := d_parts_text) rfl
  have g_parts_text := He.glo_ok X G (c.fact 6 (f := .glo "parts_text") rfl)
  obtain ⟨fd_saying_text, FD_saying_text⟩ := c.def_ 7 (d := d_saying_text) rfl
  have g_saying_text := He.glo_ok X G (c.fact 7 (f := .glo "saying_text") rfl)
  obtain ⟨fd_paper_text, FD_paper_text⟩ := c.def_ 8 (d := d_paper_text) rfl
  have g_paper_text := He.glo_ok X G (c.fact 8 (f := .glo "paper_text") rfl)
  obtain ⟨fd_Table___init__, FD_Table___init__⟩ := c.def_ 9 (d := d_Table___init__) rfl
  obtain ⟨fd_Table_rows, FD_Table_rows⟩ := c.def_ 10 (d := d_Table_rows) rfl
  obtain ⟨fd_read_count, FD_read_count⟩ := c.def_ 11 (d := d_read_count) rfl
  have g_read_count := He.glo_ok X G (c.fact 9 (f := .glo "read_count") rfl)
  obtain ⟨fd_read_fraction, FD_read_fraction⟩ := c.def_ 12 (d := d_read_fraction) rfl
  have g_read_fraction := He.glo_ok X G (c.fact 10 (f := .glo "read_fraction") rfl)
  obtain ⟨fd_read_row, FD_read_row⟩ := c.def_ 13 (d := d_read_row) rfl
  have g_read_row := He.glo_ok X G (c.fact 11 (f := .glo "read_row") rfl)
  obtain ⟨fd_read_rows, FD_read_rows⟩ := c.def_ 14 (d := d_read_rows) rfl
  have g_read_rows := He.glo_ok X G (c.fact 12 (f := .glo "read_rows") rfl)
  obtain ⟨fd_read_part, FD_read_part⟩ := c.def_ 15 (d := d_read_part) rfl
  have g_read_part := He.glo_ok X G (c.fact 13 (f := .glo "read_part") rfl)
  obtain ⟨fd_read_parts, FD_read_parts⟩ := c.def_ 16 (d := d_read_parts) rfl
  have g_read_parts := He.glo_ok X G (c.fact 14 (f := .glo "read_parts") rfl)
  obtain ⟨fd_read_saying, FD_read_saying⟩ := c.def_ 17 (d := d_read_saying) rfl
  have g_read_saying := He.glo_ok X G (c.fact 15 (f := .glo "read_saying") rfl)
  obtain ⟨fd_read_paper, FD_read_paper⟩ := c.def_ 18 (d := d_read_paper) rfl
  have g_read_paper := He.glo_ok X G (c.fact 16 (f := .glo "read_paper") rfl)
  obtain ⟨fd_read_table, FD_read_table⟩ := c.def_ 19 (d := d_read_table) rfl
  have g_read_table := He.glo_ok X G (c.fact 17 (f := .glo "read_table") rfl)
  obtain ⟨fd_sure_name, FD_sure_name⟩ := c.def_ 20 (d := d_sure_name) rfl
  have g_sure_name := He.glo_ok X G (c.fact 18 (f := .glo "sure_name") rfl)
  obtain ⟨fd_things_in, FD_things_in⟩ := c.def_ 21 (d := d_things_in) rfl
  have g_things_in := He.glo_ok X G (c.fact 19 (f := .glo "things_in") rfl)
  obtain ⟨fd_given_in, FD_given_in⟩ := c.def_ 22 (d := d_given_in) rfl
  have g_given_in := He.glo_ok X G (c.fact 20 (f := .glo "given_in") rfl)
  obtain ⟨fd_line_in, FD_line_in⟩ := c.def_ 23 (d := d_line_in) rfl
  have g_line_in := He.glo_ok X G (c.fact 21 (f := .glo "line_in") rfl)
  obtain ⟨fd_Desk___init__, FD_Desk___init__⟩ := c.def_ 24 (d := d_Desk___init__) rfl
  obtain ⟨fd_Desk_found, FD_Desk_found⟩ := c.def_ 25 (d := d_Desk_found) rfl
  obtain ⟨fd_Desk_keep, FD_Desk_keep⟩ := c.def_ 26 (d := d_Desk_keep) rfl
  obtain ⟨fd_Desk_tell, FD_Desk_tell⟩ := c.def_ 27 (d := d_Desk_tell) rfl
  obtain ⟨fd__law_mixed, FD__law_mixed⟩ := c.def_ 28 (d := d__law_mixed) rfl
  have g__law_mixed := He.glo_ok X G (c.fact 22 (f := .glo "_law_mixed") rfl)
  obtain ⟨fd__law_pile, FD__law_pile⟩ := c.def_ 29 (d := d__law_pile) rfl
  have g__law_pile := He.glo_ok X G (c.fact 23 (f := .glo "_law_pile") rfl)
  obtain ⟨fd__law_take, FD__law_take⟩ := c.def_ 30 (d := d__law_take) rfl
  have g__law_take := He.glo_ok X G (c.fact 24 (f := .glo "_law_take") rfl)
  obtain ⟨fd__law_by_names, FD__law_by_names⟩ := c.def_ 31 (d := d__law_by_names) rfl
  have g__law_by_names := He.glo_ok X G (c.fact 25 (f := .glo "_law_by_names") rfl)
  obtain ⟨fd_law, FD_law⟩ := c.def_ 32 (d := d_law) rfl
  have e := hfa.symm.trans (He.glo_ok X G (c.fact 26 (f := .glo "law") rfl))
  cases e
  have g_Table := He.glo_ok X G (c.fact 46 (f := .glo "Table") rfl)
  have C_Table := He.cls_ok (c.fact 47 (f := .cls "Table") rfl)
  have n_Table_kept := He.noat_ok (c.fact 48 (f := .noat "Table" "kept") rfl)
  have g_Desk := He.glo_ok X G (c.fact 49 (f := .glo "Desk") rfl)
  have C_Desk := He.cls_ok (c.fact 50 (f := .cls "Desk") rfl)
  have n_Desk_held := He.noat_ok (c.fact 51 (f := .noat "Desk" "held") rfl)
  obtain ⟨B_Table, Y_Table⟩ := txtB_ok (List.all_eq_true.mp ctx "Table" (by decide))
  have m_Table___init__ := He.mkr_ok (c.fact 52 (f := .mkr "Table") rfl)
  have m_Table_rows := He.meth_ok (c.fact 53 (f := .meth "Table" "rows") rfl)
  have m_Desk___init__ := He.mkr_ok (c.fact 54 (f := .mkr "Desk") rfl)
  have m_Desk_found := He.meth_ok (c.fact 55 (f := .meth "Desk" "found") rfl)
  have m_Desk_keep := He.meth_ok (c.fact 56 (f := .meth "Desk" "keep") rfl)
  have m_Desk_tell := He.meth_ok (c.fact 57 (f := .meth "Desk" "tell") rfl)
  have g_NoText := He.glo_ok X G (c.fact 58 (f := .glo "NoText") rfl)
  obtain ⟨z1_NoText, z_NoText⟩ := He.ba (c.fact 59 (f := .exc "NoText") rfl)
  obtain ⟨z2_NoText, z_NoText⟩ := He.ba z_NoText
  obtain ⟨z3_NoText, z4_NoText⟩ := He.ba z_NoText
  have X_NoText : ExK K mg "NoText" (He.ga K "NoText") := ⟨z1_NoText, g_NoText, z2_NoText, of_decide_eq_true z3_NoText, of_decide_eq_true z4_NoText⟩
  have T : Txt mg := ⟨He.free_ok X G (c.fact 27 (f := .free "len") rfl), He.free_ok X G (c.fact 28 (f := .free "range") rfl), He.free_ok X G (c.fact 29 (f := .free "str") rfl), He.free_ok X G (c.fact 30 (f := .free "isinstance") rfl), He.free_ok X G (c.fact 31 (f := .free "list") rfl), He.free_ok X G (c.fact 32 (f := .free "sorted") rfl), He.free_ok X G (c.fact 33 (f := .free "sum") rfl), He.free_ok X G (c.fact 34 (f := .free "abs") rfl), He.free_ok X G (c.fact 35 (f := .free "int") rfl), He.free_ok X G (c.fact 36 (f := .free "bool") rfl), He.free_ok X G (c.fact 37 (f := .free "tuple") rfl), He.free_ok X G (c.fact 38 (f := .free "divmod") rfl), He.free_ok X G (c.fact 39 (f := .free "zip") rfl), He.free_ok X G (c.fact 40 (f := .free "enumerate") rfl), He.free_ok X G (c.fact 41 (f := .free "max") rfl), He.free_ok X G (c.fact 42 (f := .free "min") rfl), He.free_ok X G (c.fact 43 (f := .free "any") rfl), He.free_ok X G (c.fact 44 (f := .free "all") rfl), He.free_ok X G (c.fact 45 (f := .free "ValueError") rfl)⟩
  have b := FunD.bindsA (ps := ["_law_script"]) FD_law fun _ _ _ _ _ _ us hl => match us, hl with | [_], _ => rfl
  refine ⟨fd_law, fun s v => b s [v] rfl, fun base _ _ => ?_⟩
  have G_PLAIN_texts := SaysT.strs X G cT 0 (l := ["one", "few", "alone", "wide", "level"])
  have W_SHAPES := SaysV.dic X G cV 0
  have W_WRITERS := SaysV.dic X G cV 1
  have W_READERS := SaysV.dic X G cV 2
  have W_SIGNS := SaysV.dic X G cV 3
  have W_SAYERS := SaysV.dic X G cV 4
  have U_SIGNS := SaysV.dicN X G cV 3
  have U_SAYERS := SaysV.dicN X G cV 4
  have G_MOST_FIGURES : GloD K mg "MOST_FIGURES" (.int 40) := gloInt (He.int_ok X G (c.fact 60 (f := .int "MOST_FIGURES" 40) rfl))
  have G_FIGURES : GloD K mg "FIGURES" (.str "0123456789") := gloStr (He.str_ok X G (c.fact 61 (f := .str "FIGURES" "0123456789") rfl))
  have G_LETTERS : GloD K mg "LETTERS" (.str "abcdefghijklmnopqrstuvwxyz") := gloStr (He.str_ok X G (c.fact 62 (f := .str "LETTERS" "abcdefghijklmnopqrstuvwxyz") rfl))
  have b_divisor := FunD.bindsN (ps := p_divisor) FD_divisor fun _ _ _ _ _ _ us hl => match us, hl with | [_, _], _ => rfl
  have D_divisor : DefAt P w K mg base CX0 1 "divisor" p_divisor _ fd_divisor [] F_divisor := ⟨ok_divisor FD_divisor T, g_divisor, FD_divisor.kp, [], [], b_divisor, .nil, fun H => reps_nil⟩
  have o_lowest := ok_lowest (P := P) (w := w) (base := base) FD_lowest T D_divisor
  have D_lowest : DefAt P w K mg base CX0 2 "lowest" p_lowest _ fd_lowest [] F_lowest := ⟨o_lowest, g_lowest, FD_lowest.kp, by
    obtain ⟨ds, v, b⟩ : ∃ ds, Vals ([V.int 1].drop 1) ds ∧ Binds K fd_lowest p_lowest ds := b_of (ps := p_lowest) FD_lowest 2 1 (by intro z; cases z) rfl fun T kV doc pm an cdv ct us its hu hi => match us, its, hu, hi with
      | [_, _], [_], _, _ => ⟨_, rfl, rfl⟩
    exact ⟨_, ds, b, v, fun H => reps_nil⟩⟩
  have D1_lowest : DefAt P w K mg base CX0 2 "lowest" p_lowest _ fd_lowest [.int 1] F_lowest := ⟨o_lowest, g_lowest, FD_lowest.kp, by
    obtain ⟨ds, v, b⟩ : ∃ ds, Vals ([V.int 1].drop 0) ds ∧ Binds K fd_lowest p_lowest ds := b_of (ps := p_lowest) FD_lowest 1 0 (by intro z; cases z) rfl fun T kV doc pm an cdv ct us its hu hi => match us, its, hu, hi with
      | [_], [_], _, _ => ⟨_, rfl, rfl⟩
    exact ⟨_, ds, b, v, fun H => reps_cons r_int (reps_nil)⟩⟩
  have b_fraction_text := FunD.bindsN (ps := p_fraction_text) FD_fraction_text fun _ _ _ _ _ _ us hl => match us, hl with | [_], _ => rfl
  have D_fraction_text : DefAt P w K mg base CX0 1 "fraction_text" p_fraction_text _ fd_fraction_text [] F_fraction_text := ⟨ok_fraction_text FD_fraction_text T, g_fraction_text, FD_fraction_text.kp, [], [], b_fraction_text, .nil, fun H => reps_nil⟩
  have b_numbers_text := FunD.bindsN (ps := p_numbers_text) FD_numbers_text fun _ _ _ _ _ _ us hl => match us, hl with | [_], _ => rfl
  have D_numbers_text : DefAt P w K mg base CX0 2 "numbers_text" p_numbers_text _ fd_numbers_text [] F_numbers_text := ⟨ok_numbers_text FD_numbers_text D_fraction_text, g_numbers_text, FD_numbers_text.kp, [], [], b_numbers_text, .nil, fun H => reps_nil⟩
  have b_row_text := FunD.bindsN (ps := p_row_text) FD_row_text fun _ _ _ _ _ _ us hl => match us, hl with | [_], _ => rfl
  have D_row_text : DefAt P w K mg base CX0 3 "row_text" p_row_text _ fd_row_text [] F_row_text := ⟨ok_row_text FD_row_text D_numbers_text, g_row_text, FD_row_text.kp, [], [], b_row_text, .nil, fun H => reps_nil⟩
  have V_row_text : FnV P w K mg base 3 p_row_text _ fd_row_text F_row_text := ⟨D_row_text.ok, FD_row_text.kp, b_row_text⟩
  have K_row_text : DefK P w K mg base CX0 3 "row_text" p_row_text _ fd_row_text 0 ["row"] [0] [] F_row_text := ⟨D_row_text.ok, g_row_text, FD_row_text.kp, kbN FD_row_text 0 ["row"] [0] fun kV doc pm an cdv ct us ws hu hw => match us, ws, hu, hw with | [], [_], _, _ => rfl⟩
  have b_rows_text := FunD.bindsN (ps := p_rows_text) FD_rows_text fun _ _ _ _ _ _ us hl => match us, hl with | [_], _ => rfl
  have D_rows_text : DefAt P w K mg base CX0 3 "rows_text" p_rows_text _ fd_rows_text [] F_rows_text := ⟨ok_rows_text FD_rows_text D_numbers_text, g_rows_text, FD_rows_text.kp, [], [], b_rows_text, .nil, fun H => reps_nil⟩
  have V_rows_text : FnV P w K mg base 3 p_rows_text _ fd_rows_text F_rows_text := ⟨D_rows_text.ok, FD_rows_text.kp, b_rows_text⟩
  have b_parts_text := FunD.bindsN (ps := p_parts_text) FD_parts_text fun _ _ _ _ _ _ us hl => match us, hl with | [_], _ => rfl
  have D_parts_text : DefAt P w K mg base CX0 3 "parts_text" p_parts_text _ fd_parts_text [] F_parts_text := ⟨ok_parts_text FD_parts_text D_fraction_text D_numbers_text, g_parts_text, FD_parts_text.kp, [], [], b_parts_text, .nil, fun H => reps_nil⟩
  have V_parts_text : FnV P w K mg base 3 p_parts_text _ fd_parts_text F_parts_text := ⟨D_parts_text.ok, FD_parts_text.kp, b_parts_text⟩
  have b_saying_text := FunD.bindsN (ps := p_saying_text) FD_saying_text fun _ _ _ _ _ _ us hl => match us, hl with | [_], _ => rfl
  have D_saying_text : DefAt P w K mg base CX0 3 "saying_text" p_saying_text _ fd_saying_text [] F_saying_text := ⟨ok_saying_text FD_saying_text D_numbers_text, g_saying_text, FD_saying_text.kp, [], [], b_saying_text, .nil, fun H => reps_nil⟩
  have K_saying_text : DefK P w K mg base CX0 3 "saying_text" p_saying_text _ fd_saying_text 0 ["saying"] [0] [] F_saying_text := ⟨D_saying_text.ok, g_saying_text, FD_saying_text.kp, kbN FD_saying_text 0 ["saying"] [0] fun kV doc pm an cdv ct us ws hu hw => match us, ws, hu, hw with | [], [_], _, _ => rfl⟩
  have b_paper_text := FunD.bindsN (ps := p_paper_text) FD_paper_text fun _ _ _ _ _ _ us hl => match us, hl with | [_], _ => rfl
  have D_paper_text : DefAt P w K mg base CX0 4 "paper_text" p_paper_text _ fd_paper_text [] F_paper_text := ⟨ok_paper_text FD_paper_text T W_SHAPES W_WRITERS V_row_text V_rows_text V_parts_text, g_paper_text, FD_paper_text.kp, [], [], b_paper_text, .nil, fun H => reps_nil⟩
  have K_paper_text : DefK P w K mg base CX0 4 "paper_text" p_paper_text _ fd_paper_text 0 ["paper"] [0] [] F_paper_text := ⟨D_paper_text.ok, g_paper_text, FD_paper_text.kp, kbN FD_paper_text 0 ["paper"] [0] fun kV doc pm an cdv ct us ws hu hw => match us, ws, hu, hw with | [], [_], _, _ => rfl⟩
  have b_Table___init__ := FunD.bindsN (ps := p_Table___init__) FD_Table___init__ fun _ _ _ _ _ _ us hl => match us, hl with | [_, _], _ => rfl
  have D_Table___init__ : MakeAt P w K mg base 1 "Table" (He.ga K "Table") p_Table___init__ _ fd_Table___init__ (F_Table___init__ (He.ga K "Table")) := ⟨ok_Table___init__ FD_Table___init__ T C_Table n_Table_kept, m_Table___init__, g_Table, b_Table___init__⟩
  have b_Table_rows := FunD.bindsN (ps := p_Table_rows) FD_Table_rows fun _ _ _ _ _ _ us hl => match us, hl with | [_], _ => rfl
  have D_Table_rows : MethAt P w K mg base 1 (He.ga K "Table") "rows" p_Table_rows _ fd_Table_rows [] (F_Table_rows (He.ga K "Table")) := ⟨ok_Table_rows FD_Table_rows T C_Table n_Table_kept, C_Table, m_Table_rows, [], [], b_Table_rows, .nil, fun H => reps_nil⟩
  have b_read_count := FunD.bindsN (ps := p_read_count) FD_read_count fun _ _ _ _ _ _ us hl => match us, hl with | [_], _ => rfl
  have D_read_count : DefX P w K mg base 1 "read_count" p_read_count _ fd_read_count [] (F_read_count K) := ⟨ok_read_count FD_read_count T X_NoText G_FIGURES G_MOST_FIGURES, g_read_count, FD_read_count.kp, [], [], b_read_count, .nil, fun H => reps_nil⟩
  have b_read_fraction := FunD.bindsN (ps := p_read_fraction) FD_read_fraction fun _ _ _ _ _ _ us hl => match us, hl with | [_], _ => rfl
  have D_read_fraction : DefX P w K mg base 3 "read_fraction" p_read_fraction _ fd_read_fraction [] (F_read_fraction K) := ⟨ok_read_fraction FD_read_fraction T X_NoText D_read_count D_lowest, g_read_fraction, FD_read_fraction.kp, [], [], b_read_fraction, .nil, fun H => reps_nil⟩
  have b_read_row := FunD.bindsN (ps := p_read_row) FD_read_row fun _ _ _ _ _ _ us hl => match us, hl with | [_], _ => rfl
  have D_read_row : DefAt P w K mg base CX0 4 "read_row" p_read_row _ fd_read_row [] F_read_row := ⟨ok_read_row FD_read_row D_read_fraction, g_read_row, FD_read_row.kp, [], [], b_read_row, .nil, fun H => reps_nil⟩
  have V_read_row : FnV P w K mg base 4 p_read_row _ fd_read_row F_read_row := ⟨D_read_row.ok, FD_read_row.kp, b_read_row⟩
  have K_read_row : DefK P w K mg base CX0 4 "read_row" p_read_row _ fd_read_row 0 ["text"] [0] [] F_read_row := ⟨D_read_row.ok, g_read_row, FD_read_row.kp, kbN FD_read_row 0 ["text"] [0] fun kV doc pm an cdv ct us ws hu hw => match us, ws, hu, hw with | [], [_], _, _ => rfl⟩
  have b_read_rows := FunD.bindsN (ps := p_read_rows) FD_read_rows fun _ _ _ _ _ _ us hl => match us, hl with | [_], _ => rfl
  have D_read_rows : DefAt P w K mg base CX0 5 "read_rows" p_read_rows _ fd_read_rows [] F_read_rows := ⟨ok_read_rows FD_read_rows D_read_row, g_read_rows, FD_read_rows.kp, [], [], b_read_rows, .nil, fun H => reps_nil⟩
  have V_read_rows : FnV P w K mg base 5 p_read_rows _ fd_read_rows F_read_rows := ⟨D_read_rows.ok, FD_read_rows.kp, b_read_rows⟩
  have b_read_part := FunD.bindsN (ps := p_read_part) FD_read_part fun _ _ _ _ _ _ us hl => match us, hl with | [_], _ => rfl
  have D_read_part : DefAt P w K mg base CX0 5 "read_part" p_read_part _ fd_read_part [] F_read_part := ⟨ok_read_part FD_read_part D_read_fraction D_read_row, g_read_part, FD_read_part.kp, [], [], b_read_part, .nil, fun H => reps_nil⟩
  have b_read_parts := FunD.bindsN (ps := p_read_parts) FD_read_parts fun _ _ _ _ _ _ us hl => match us, hl with | [_], _ => rfl
  have D_read_parts : DefAt P w K mg base CX0 6 "read_parts" p_read_parts _ fd_read_parts [] F_read_parts := ⟨ok_read_parts FD_read_parts D_read_part, g_read_parts, FD_read_parts.kp, [], [], b_read_parts, .nil, fun H => reps_nil⟩
  have V_read_parts : FnV P w K mg base 6 p_read_parts _ fd_read_parts F_read_parts := ⟨D_read_parts.ok, FD_read_parts.kp, b_read_parts⟩
  have b_read_saying := FunD.bindsN (ps := p_read_saying) FD_read_saying fun _ _ _ _ _ _ us hl => match us, hl with | [_], _ => rfl
  have D_read_saying : DefAt P w K mg base CX0 5 "read_saying" p_read_saying _ fd_read_saying [] F_read_saying := ⟨ok_read_saying FD_read_saying G_PLAIN_texts D_read_row, g_read_saying, FD_read_saying.kp, [], [], b_read_saying, .nil, fun H => reps_nil⟩
  have K_read_saying : DefK P w K mg base CX0 5 "read_saying" p_read_saying _ fd_read_saying 0 ["text"] [0] [] F_read_saying := ⟨D_read_saying.ok, g_read_saying, FD_read_saying.kp, kbN FD_read_saying 0 ["text"] [0] fun kV doc pm an cdv ct us ws hu hw => match us, ws, hu, hw with | [], [_], _, _ => rfl⟩
  have b_read_paper := FunD.bindsN (ps := p_read_paper) FD_read_paper fun _ _ _ _ _ _ us hl => match us, hl with | [_], _ => rfl
  have D_read_paper : DefAt P w K mg base CX0 7 "read_paper" p_read_paper _ fd_read_paper [] F_read_paper := ⟨ok_read_paper FD_read_paper T W_SHAPES W_READERS V_read_row V_read_rows V_read_parts, g_read_paper, FD_read_paper.kp, [], [], b_read_paper, .nil, fun H => reps_nil⟩
  have K_read_paper : DefK P w K mg base CX0 7 "read_paper" p_read_paper _ fd_read_paper 0 ["text"] [0] [] F_read_paper := ⟨D_read_paper.ok, g_read_paper, FD_read_paper.kp, kbN FD_read_paper 0 ["text"] [0] fun kV doc pm an cdv ct us ws hu hw => match us, ws, hu, hw with | [], [_], _, _ => rfl⟩
  have b_read_table := FunD.bindsN (ps := p_read_table) FD_read_table fun _ _ _ _ _ _ us hl => match us, hl with | [_], _ => rfl
  have D_read_table : DefAt P w K mg base CX0 6 "read_table" p_read_table _ fd_read_table [] (F_read_table (He.ga K "Table")) := ⟨ok_read_table FD_read_table D_read_rows D_Table___init__, g_read_table, FD_read_table.kp, [], [], b_read_table, .nil, fun H => reps_nil⟩
  have K_read_table : DefK P w K mg base CX0 6 "read_table" p_read_table _ fd_read_table 0 ["text"] [0] [] (F_read_table (He.ga K "Table")) := ⟨D_read_table.ok, g_read_table, FD_read_table.kp, kbN FD_read_table 0 ["text"] [0] fun kV doc pm an cdv ct us ws hu hw => match us, ws, hu, hw with | [], [_], _, _ => rfl⟩
  have b_sure_name := FunD.bindsN (ps := p_sure_name) FD_sure_name fun _ _ _ _ _ _ us hl => match us, hl with | [_], _ => rfl
  have D_sure_name : DefAt P w K mg base CX0 1 "sure_name" p_sure_name _ fd_sure_name [] F_sure_name := ⟨ok_sure_name FD_sure_name T G_LETTERS, g_sure_name, FD_sure_name.kp, [], [], b_sure_name, .nil, fun H => reps_nil⟩
  have b_things_in := FunD.bindsN (ps := p_things_in) FD_things_in fun _ _ _ _ _ _ us hl => match us, hl with | [_, _], _ => rfl
  have D_things_in : DefAt P w K mg base CX0 2 "things_in" p_things_in _ fd_things_in [] F_things_in := ⟨ok_things_in FD_things_in T U_SIGNS D_sure_name, g_things_in, FD_things_in.kp, [], [], b_things_in, .nil, fun H => reps_nil⟩
  have b_given_in := FunD.bindsN (ps := p_given_in) FD_given_in fun _ _ _ _ _ _ us hl => match us, hl with | [_, _], _ => rfl
  have D_given_in : DefAt P w K mg base CX0 5 "given_in" p_given_in _ fd_given_in [] F_given_in := ⟨ok_given_in FD_given_in D_sure_name D_read_row, g_given_in, FD_given_in.kp, [], [], b_given_in, .nil, fun H => reps_nil⟩
  have b_line_in := FunD.bindsN (ps := p_line_in) FD_line_in fun _ _ _ _ _ _ us hl => match us, hl with | [_], _ => rfl
  have D_line_in : DefAt P w K mg base CX0 6 "line_in" p_line_in _ fd_line_in [] F_line_in := ⟨ok_line_in FD_line_in U_SIGNS D_things_in D_given_in, g_line_in, FD_line_in.kp, [], [], b_line_in, .nil, fun H => reps_nil⟩
  have b_Desk___init__ := FunD.bindsN (ps := p_Desk___init__) FD_Desk___init__ fun _ _ _ _ _ _ us hl => match us, hl with | [_], _ => rfl
  have D_Desk___init__ : MakeAt P w K mg base 1 "Desk" (He.ga K "Desk") p_Desk___init__ _ fd_Desk___init__ (F_Desk___init__ (He.ga K "Desk")) := ⟨ok_Desk___init__ FD_Desk___init__ C_Desk n_Desk_held, m_Desk___init__, g_Desk, b_Desk___init__⟩
  have b_Desk_found := FunD.bindsN (ps := p_Desk_found) FD_Desk_found fun _ _ _ _ _ _ us hl => match us, hl with | [_, _, _], _ => rfl
  have D_Desk_found : MethAt P w K mg base 1 (He.ga K "Desk") "found" p_Desk_found _ fd_Desk_found [] (F_Desk_found (He.ga K "Desk")) := ⟨ok_Desk_found FD_Desk_found C_Desk n_Desk_held, C_Desk, m_Desk_found, [], [], b_Desk_found, .nil, fun H => reps_nil⟩
  have b_Desk_keep := FunD.bindsN (ps := p_Desk_keep) FD_Desk_keep fun _ _ _ _ _ _ us hl => match us, hl with | [_, _, _], _ => rfl
  have D_Desk_keep : MethT3 P w K mg base 4 (He.ga K "Desk") "keep" p_Desk_keep _ fd_Desk_keep (F_Desk_keep (He.ga K "Desk")) := ⟨ok_Desk_keep FD_Desk_keep T C_Desk n_Desk_held g_Table Y_Table D_row_text, C_Desk, m_Desk_keep, b_Desk_keep⟩
  have b_Desk_tell := FunD.bindsN (ps := p_Desk_tell) FD_Desk_tell fun _ _ _ _ _ _ us hl => match us, hl with | [_, _], _ => rfl
  have D_Desk_tell : MethI P w K mg base 8 (He.ga K "Desk") "tell" p_Desk_tell _ fd_Desk_tell [] (F_Desk_tell (He.ga K "Desk")) := ⟨ok_Desk_tell FD_Desk_tell U_SAYERS rfl D_line_in D_Desk_found D_Desk_keep, C_Desk, m_Desk_tell, [], [], b_Desk_tell, .nil, fun H => reps_nil⟩
  have M_tell : MethIK P w K mg base 8 (He.ga K "Desk") "tell" p_Desk_tell _ fd_Desk_tell "line" (F_Desk_tell (He.ga K "Desk")) := ⟨D_Desk_tell.ok, C_Desk, m_Desk_tell, kbN0 FD_Desk_tell 1 ["line"] [0, 1] fun kV doc pm an cdv ct us ws hu hw => match us, ws, hu, hw with | [_], [_], _, _ => rfl⟩
  have b__law_mixed := FunD.bindsN (ps := p__law_mixed) FD__law_mixed fun _ _ _ _ _ _ us hl => match us, hl with | [_, _], _ => rfl
  have D__law_mixed : DefAt P w K mg base CX0 1 "_law_mixed" p__law_mixed _ fd__law_mixed [] F__law_mixed := ⟨ok__law_mixed FD__law_mixed , g__law_mixed, FD__law_mixed.kp, [], [], b__law_mixed, .nil, fun H => reps_nil⟩
  have b__law_pile := FunD.bindsN (ps := p__law_pile) FD__law_pile fun _ _ _ _ _ _ us hl => match us, hl with | [_, _], _ => rfl
  have D__law_pile : DefAt P w K mg base CX0 1 "_law_pile" p__law_pile _ fd__law_pile [] F__law_pile := ⟨ok__law_pile FD__law_pile T, g__law_pile, FD__law_pile.kp, [], [], b__law_pile, .nil, fun H => reps_nil⟩
  have b__law_take := FunD.bindsN (ps := p__law_take) FD__law_take fun _ _ _ _ _ _ us hl => match us, hl with | [_, _], _ => rfl
  have D__law_take : DefI P w K mg base CX0 2 "_law_take" p__law_take _ fd__law_take [] F__law_take := ⟨ok__law_take FD__law_take D__law_mixed, g__law_take, FD__law_take.kp, [], [], b__law_take, .nil, fun H => reps_nil⟩
  have b__law_by_names := FunD.bindsN (ps := p__law_by_names) FD__law_by_names fun _ _ _ _ _ _ us hl => match us, hl with | [_], _ => rfl
  have D__law_by_names : DefAt P w K mg base CX0 9 "_law_by_names" p__law_by_names _ fd__law_by_names [] F__law_by_names := ⟨ok__law_by_names FD__law_by_names T K_row_text K_read_row K_saying_text K_read_saying K_paper_text K_read_paper K_read_table D_Table_rows D_Desk___init__ M_tell, g__law_by_names, FD__law_by_names.kp, [], [], b__law_by_names, .nil, fun H => reps_nil⟩
  exact ok_law FD_law T D__law_pile D__law_take D__law_by_names
end K79
open PySem PySem.W PySem.Calls PyProof.Rows in
theorem PySem.Challenge.cw_eitherslack_k79_texts_by_names_holds : PySem.Challenge.rw_eitherslack_k79_texts_by_names.Holds := by
  w_on; o_law
  refine HandSHeadRun.head_any (r := OpenLaw.row PySem.Challenge.rw_eitherslack_k79_texts_by_names) (q := view (OpenLaw.row PySem.Challenge.rw_eitherslack_k79_texts_by_names).prog [199]) (H := K79.hk) (ob := K79.ob) (M := 40000) (loose := K79.loose) (d := HandSHeadRun.topDef (OpenLaw.row PySem.Challenge.rw_eitherslack_k79_texts_by_names).prog 199) (kwd := []) K79.ob_eq
    (by kernel_rfl) (fun s => by kernel_rfl) K79.run (by kernel_rfl) (by kernel_rfl) (by kernel_rfl) (by rfl) (by first | assumption | decide +kernel) (by decide +kernel) ⟨rfl, rfl, rfl, rfl, rfl, by decide +kernel⟩ ?hw ?hc
  case hw => w_witness2
  case hc =>
    refine L2.walk_ofE (l := PySem.Challenge.rw_eitherslack_k79_texts_by_names) (n := 63) (k := 10) (x := "_law_script") (CX := L2.CX0) rfl (by decide) (by kernel_rfl) ⟨rfl, by decide, by decide⟩ ?F (fun _ _ _ _ z => z)
    intro w mg fa h Y G hmg0
    obtain ⟨K, KX, c⟩ := Y
    have hmg : mg ("law" : PySem.Str) = some (.ref fa) := by
      have e : (HandSHeadRun.topDef (OpenLaw.row PySem.Challenge.rw_eitherslack_k79_texts_by_names).prog 199).name = ("law" : PySem.Str) := by kernel_rfl
      rw [← e]
      exact hmg0
    obtain ⟨fd, hb, hF⟩ := K79.facts (P := (PySem.Challenge.rw_eitherslack_k79_texts_by_names).prog) (w := w) KX G hmg c
    refine ⟨K, fd, DL.spP K K79.FLaw, KX, hb, fun H a ns hl hO hS => ?_, hF⟩
    refine DL.spP_use (ds := [.fz (ns.map DL.D.int)]) (DL.reps_cons ?_ DL.reps_nil) (k := fun d => d = .bl true) ⟨ns, hl, rfl, rfl⟩ fun d v H' e n => ?_
    · unfold DL.RepR
      exact ⟨a, _, rfl, DL.SqF.of hO hS, DL.reps_int ns⟩
    · subst e
      obtain ⟨_, F, r, _⟩ := n
      unfold DL.RepO at r
      exact r.1
