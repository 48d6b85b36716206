import PyProof.Rows.All
import Wide.All
import OpenK.AllK
import Wide.FinOn
import HandS.ForMost
import HandS.Exc
import HandS.ExcInit
import HandS.Wide
import HandS.IsInst
import HandS.SortInts
import HandS.TupAny
import HandS.More
import HandS.Flow
import HandS.ExcOwn
import HandS.CallSlots
import HandS.Property
import HandS.ExcField
import HandS.TryMany
import KE.KExcSuper
import HandS.ExcValue
import KE.KExcIs
import HandS.Head0
import HandS.Head1
import HandS.Head2
import HandS.HeadEnd
import HandS.HeadHook1
import HandS.HeadHook2
import KE.KStateDown
import Lean
import PySem.Challenge.RW_everymorning_k97_error_classes
set_option Elab.async false
set_option linter.all false
set_option maxRecDepth 100000
set_option maxHeartbeats 4000000
/-! SL1: data, trees, what the heap bears of them, steps of the heap. -/
namespace SL
open PySem PySem.Spec PyProof.Rows L2

/-- data that is never changed any more -/
inductive D where
  | bad | non | bl (b : Bool) | int (i : Int) | str (x : Str) | obj (a : Addr)
  | lst (xs : List D) | tup (xs : List D) | ins (C : Addr) (ns : List Str) (xs : List D)
  | sq (xs : List D)
  | exc (C : Addr) (ns : List Str) (xs : List D)

mutual
def RepD (K : PySem.W.Frag) (B : Hp) : D → V → Prop
  | .bad, _ => True
  | .non, v => v = .non
  | .bl b, v => v = .bl b
  | .int i, v => v = .int i
  | .str x, v => v = .str x
  | .obj a, v => v = .ref a
  | .lst xs, v => ∃ a ws, v = .ref a ∧ B a = some (.lst ws) ∧ RepDs K B xs ws
  | .sq xs, v => ∃ a ws, v = .ref a ∧ SqL K B a ws ∧ RepDs K B xs ws
  | .tup xs, v => ∃ a ws, v = .ref a ∧ SqT K B a ws ∧ RepDs K B xs ws
  | .ins C ns xs, v => ∃ a dx ws, v = .ref a ∧ B a = some (.ins C dx (ns.zip ws)) ∧ ws.length = ns.length ∧ RepDs K B xs ws
  | .exc C ns xs, v => ∃ a dd ws, v = .ref a ∧ B a = some (exo a C dd) ∧ ws.length = ns.length ∧ ((ns = [] ∧ dd = none) ∨ ∃ d, dd = some d ∧ B d = some (.xd (ns.zip ws))) ∧ RepDs K B xs ws
def RepDs (K : PySem.W.Frag) (B : Hp) : List D → List V → Prop
  | [], ws => ws = []
  | x :: xs, ws => ∃ w r, ws = w :: r ∧ RepD K B x w ∧ RepDs K B xs r
end

/-- every tracked object of B stands in H -/
def Sub (B H : Hp) : Prop := ∀ a o, B a = some o → H a = some o
theorem Sub.refl (B : Hp) : Sub B B := fun _ _ h => h
theorem Sub.trans {A B C : Hp} (h : Sub A B) (g : Sub B C) : Sub A C := fun a o e => g a o (h a o e)
theorem Sub.rd {B H : Hp} (s : Sub B H) {a : Addr} {u : HO} (h : Rd B a u) : Rd H a u := by
  rcases h with h | ⟨o, h⟩
  · exact .inl (s a _ h)
  · exact .inr ⟨o, s a _ h⟩
theorem Sub.l {K : PySem.W.Frag} {B H : Hp} (s : Sub B H) {a : Addr} {xs : List V} (h : SqL K B a xs) : SqL K H a xs := by
  rcases h with h | h
  · exact .inl (s.rd h)
  · exact .inr h
theorem Sub.t {K : PySem.W.Frag} {B H : Hp} (s : Sub B H) {a : Addr} {xs : List V} (h : SqT K B a xs) : SqT K H a xs := by
  rcases h with h | h
  · exact .inl (s.rd h)
  · exact .inr h
mutual
theorem RepD.mono {K : PySem.W.Frag} {B H : Hp} (s : Sub B H) : ∀ {d : D} {v : V}, RepD K B d v → RepD K H d v
  | .bad, _, _ => by unfold RepD; trivial
  | .non, _, h => by unfold RepD at h ⊢; exact h
  | .bl _, _, h => by unfold RepD at h ⊢; exact h
  | .int _, _, h => by unfold RepD at h ⊢; exact h
  | .str _, _, h => by unfold RepD at h ⊢; exact h
  | .obj _, _, h => by unfold RepD at h ⊢; exact h
  | .lst xs, _, h => by
    unfold RepD at h ⊢
    obtain ⟨a, ws, e, h1, h2⟩ := h
    exact ⟨a, ws, e, s _ _ h1, RepDs.mono s h2⟩
  | .sq xs, _, h => by
    unfold RepD at h ⊢
    obtain ⟨a, ws, e, h1, h2⟩ := h
    exact ⟨a, ws, e, s.l h1, RepDs.mono s h2⟩
  | .tup xs, _, h => by
    unfold RepD at h ⊢
    obtain ⟨a, ws, e, h1, h2⟩ := h
    exact ⟨a, ws, e, s.t h1, RepDs.mono s h2⟩
  | .ins C ns xs, _, h => by
    unfold RepD at h ⊢
    obtain ⟨a, dx, ws, e, h1, hl, h2⟩ := h
    exact ⟨a, dx, ws, e, s _ _ h1, hl, RepDs.mono s h2⟩
  | .exc C ns xs, _, h => by
    unfold RepD at h ⊢
    obtain ⟨a, dd, ws, e, h1, hl, h3, h2⟩ := h
    exact ⟨a, dd, ws, e, s _ _ h1, hl, h3.imp id fun ⟨d, e1, e2⟩ => ⟨d, e1, s _ _ e2⟩, RepDs.mono s h2⟩
theorem RepDs.mono {K : PySem.W.Frag} {B H : Hp} (s : Sub B H) : ∀ {xs : List D} {ws : List V}, RepDs K B xs ws → RepDs K H xs ws
  | [], _, h => by unfold RepDs at h ⊢; exact h
  | x :: xs, _, h => by
    unfold RepDs at h ⊢
    obtain ⟨w, r, e, h1, h2⟩ := h
    exact ⟨w, r, e, RepD.mono s h1, RepDs.mono s h2⟩
end
theorem RepDs.len {K : PySem.W.Frag} {B : Hp} : ∀ {xs : List D} {ws : List V}, RepDs K B xs ws → ws.length = xs.length
  | [], _, h => by unfold RepDs at h; rw [h]; rfl
  | x :: xs, _, h => by
    unfold RepDs at h
    obtain ⟨w, r, e, _, h2⟩ := h
    rw [e, List.length_cons, List.length_cons, RepDs.len h2]
theorem RepDs.get {K : PySem.W.Frag} {B : Hp} : ∀ {xs : List D} {ws : List V} {i : Nat} {x : D}, RepDs K B xs ws → xs[i]? = some x → ∃ w, ws[i]? = some w ∧ RepD K B x w
  | [], _, _, _, _, e => by simp at e
  | y :: xs, _, 0, x, h, e => by
    unfold RepDs at h
    obtain ⟨w, r, rfl, h1, _⟩ := h
    have e' : y = x := by simpa using e
    subst e'
    exact ⟨w, rfl, h1⟩
  | y :: xs, _, i + 1, x, h, e => by
    unfold RepDs at h
    obtain ⟨w, r, rfl, _, h2⟩ := h
    obtain ⟨u, e1, e2⟩ := RepDs.get (i := i) h2 (by simpa using e)
    exact ⟨u, by simpa using e1, e2⟩
theorem RepDs.append {K : PySem.W.Frag} {B : Hp} : ∀ {xs ys : List D} {ws zs : List V}, RepDs K B xs ws → RepDs K B ys zs → RepDs K B (xs ++ ys) (ws ++ zs)
  | [], ys, _, _, h, g => by unfold RepDs at h; subst h; exact g
  | x :: xs, ys, _, _, h, g => by
    unfold RepDs at h
    obtain ⟨w, r, rfl, h1, h2⟩ := h
    show RepDs K B (x :: (xs ++ ys)) (w :: (r ++ _))
    unfold RepDs
    exact ⟨w, _, rfl, h1, RepDs.append h2 g⟩

/-! ### trees that are owned -/
inductive T where
  | un | sh (d : D) | br (d : D) | lst (a : Addr) (ts : List T) | ins (a C : Addr) (ns : List Str) (ts : List T)
  | dT (a : Addr) (kvs : List (List Key × D))
mutual
def foot : T → List Addr
  | .un => []
  | .sh _ => []
  | .br _ => []
  | .lst a ts => a :: feet ts
  | .ins a _ _ ts => a :: feet ts
  | .dT a _ => [a]
def feet : List T → List Addr
  | [] => []
  | t :: ts => foot t ++ feet ts
end
mutual
def RepT (K : PySem.W.Frag) (R B H : Hp) : T → V → Prop
  | .un, _ => True
  | .sh d, v => RepD K B d v
  | .br d, v => RepD K R d v
  | .lst a ts, v => v = .ref a ∧ ∃ ws, H a = some (.lst ws) ∧ RepTs K R B H ts ws
  | .ins a C ns ts, v => v = .ref a ∧ ∃ dx ws, H a = some (.ins C dx (ns.zip ws)) ∧ ws.length = ns.length ∧ RepTs K R B H ts ws
  | .dT a kvs, v => v = .ref a ∧ ∃ kws, H a = some (.dT kws) ∧ kws.map (·.1) = kvs.map (·.1) ∧ RepDs K B (kvs.map (·.2)) (kws.map (·.2))
def RepTs (K : PySem.W.Frag) (R B H : Hp) : List T → List V → Prop
  | [], ws => ws = []
  | t :: ts, ws => ∃ w r, ws = w :: r ∧ RepT K R B H t w ∧ RepTs K R B H ts r
end
theorem RepTs.len {K : PySem.W.Frag} {R B H : Hp} : ∀ {xs : List T} {ws : List V}, RepTs K R B H xs ws → ws.length = xs.length
  | [], _, h => by unfold RepTs at h; rw [h]; rfl
  | x :: xs, _, h => by
    unfold RepTs at h
    obtain ⟨w, r, e, _, h2⟩ := h
    rw [e, List.length_cons, List.length_cons, RepTs.len h2]
theorem RepTs.get {K : PySem.W.Frag} {R B H : Hp} : ∀ {xs : List T} {ws : List V} {i : Nat} {x : T}, RepTs K R B H xs ws → xs[i]? = some x → ∃ w, ws[i]? = some w ∧ RepT K R B H x w
  | [], _, _, _, _, e => by simp at e
  | y :: xs, _, 0, x, h, e => by
    unfold RepTs at h
    obtain ⟨w, r, rfl, h1, _⟩ := h
    have e' : y = x := by simpa using e
    subst e'
    exact ⟨w, rfl, h1⟩
  | y :: xs, _, i + 1, x, h, e => by
    unfold RepTs at h
    obtain ⟨w, r, rfl, _, h2⟩ := h
    obtain ⟨u, e1, e2⟩ := RepTs.get (i := i) h2 (by simpa using e)
    exact ⟨u, by simpa using e1, e2⟩
theorem RepTs.append {K : PySem.W.Frag} {R B H : Hp} : ∀ {xs ys : List T} {ws zs : List V}, RepTs K R B H xs ws → RepTs K R B H ys zs → RepTs K R B H (xs ++ ys) (ws ++ zs)
  | [], ys, _, _, h, g => by unfold RepTs at h; subst h; exact g
  | x :: xs, ys, _, _, h, g => by
    unfold RepTs at h
    obtain ⟨w, r, rfl, h1, h2⟩ := h
    show RepTs K R B H (x :: (xs ++ ys)) (w :: (r ++ _))
    unfold RepTs
    exact ⟨w, _, rfl, h1, RepTs.append h2 g⟩
theorem RepTs.set {K : PySem.W.Frag} {R B H : Hp} : ∀ {xs : List T} {ws : List V} {i : Nat} {x : T} {w : V}, RepTs K R B H xs ws → RepT K R B H x w → RepTs K R B H (xs.set i x) (ws.set i w)
  | [], _, i, _, _, h, _ => by unfold RepTs at h; subst h; show RepTs K R B H [] []; unfold RepTs; rfl
  | y :: xs, _, 0, x, w, h, g => by
    unfold RepTs at h
    obtain ⟨w', r, rfl, _, h2⟩ := h
    show RepTs K R B H (x :: xs) (w :: r)
    unfold RepTs
    exact ⟨w, r, rfl, g, h2⟩
  | y :: xs, _, i + 1, x, w, h, g => by
    unfold RepTs at h
    obtain ⟨w', r, rfl, h1, h2⟩ := h
    show RepTs K R B H (y :: xs.set i x) (w' :: r.set i w)
    unfold RepTs
    exact ⟨w', _, rfl, h1, RepTs.set h2 g⟩
theorem RepTs.eraseIdx {K : PySem.W.Frag} {R B H : Hp} : ∀ {xs : List T} {ws : List V} {i : Nat}, RepTs K R B H xs ws → RepTs K R B H (xs.eraseIdx i) (ws.eraseIdx i)
  | [], _, i, h => by unfold RepTs at h; subst h; simp only [List.eraseIdx_nil]; unfold RepTs; rfl
  | y :: xs, _, 0, h => by
    unfold RepTs at h
    obtain ⟨w', r, rfl, _, h2⟩ := h
    exact h2
  | y :: xs, _, i + 1, h => by
    unfold RepTs at h
    obtain ⟨w', r, rfl, h1, h2⟩ := h
    show RepTs K R B H (y :: xs.eraseIdx i) (w' :: r.eraseIdx i)
    unfold RepTs
    exact ⟨w', _, rfl, h1, RepTs.eraseIdx h2⟩
theorem RepTs.take {K : PySem.W.Frag} {R B H : Hp} : ∀ {xs : List T} {ws : List V} (i : Nat), RepTs K R B H xs ws → RepTs K R B H (xs.take i) (ws.take i)
  | _, _, 0, _ => by simp only [List.take_zero]; unfold RepTs; rfl
  | [], _, i + 1, h => by unfold RepTs at h; subst h; simp only [List.take_nil]; unfold RepTs; rfl
  | y :: xs, _, i + 1, h => by
    unfold RepTs at h
    obtain ⟨w', r, rfl, h1, h2⟩ := h
    show RepTs K R B H (y :: xs.take i) (w' :: r.take i)
    unfold RepTs
    exact ⟨w', _, rfl, h1, RepTs.take i h2⟩
theorem RepTs.drop {K : PySem.W.Frag} {R B H : Hp} : ∀ {xs : List T} {ws : List V} (i : Nat), RepTs K R B H xs ws → RepTs K R B H (xs.drop i) (ws.drop i)
  | _, _, 0, h => by simpa using h
  | [], _, i + 1, h => by unfold RepTs at h; subst h; simp only [List.drop_nil]; unfold RepTs; rfl
  | y :: xs, _, i + 1, h => by
    unfold RepTs at h
    obtain ⟨w', r, rfl, h1, h2⟩ := h
    exact RepTs.drop i h2
mutual
theorem RepT.mono {K : PySem.W.Frag} {R B H B' H' : Hp} (s : Sub B B') : ∀ {t : T} {v : V}, (∀ a o, a ∈ foot t → H a = some o → H' a = some o) → RepT K R B H t v → RepT K R B' H' t v
  | .un, _, _, _ => by unfold RepT; trivial
  | .sh _, _, _, h => by unfold RepT at h ⊢; exact h.mono s
  | .br _, _, _, h => by unfold RepT at h ⊢; exact h
  | .lst a ts, _, k, h => by
    unfold RepT at h ⊢
    obtain ⟨e, ws, h1, h2⟩ := h
    exact ⟨e, ws, k a _ (by simp [foot]) h1, RepTs.mono s (fun b o hb => k b o (by simp [foot, hb])) h2⟩
  | .ins a C ns ts, _, k, h => by
    unfold RepT at h ⊢
    obtain ⟨e, dx, ws, h1, hl, h2⟩ := h
    exact ⟨e, dx, ws, k a _ (by simp [foot]) h1, hl, RepTs.mono s (fun b o hb => k b o (by simp [foot, hb])) h2⟩
  | .dT a kvs, _, k, h => by
    unfold RepT at h ⊢
    obtain ⟨e, kws, h1, h2, h3⟩ := h
    exact ⟨e, kws, k a _ (by simp [foot]) h1, h2, h3.mono s⟩
theorem RepTs.mono {K : PySem.W.Frag} {R B H B' H' : Hp} (s : Sub B B') : ∀ {ts : List T} {ws : List V}, (∀ a o, a ∈ feet ts → H a = some o → H' a = some o) → RepTs K R B H ts ws → RepTs K R B' H' ts ws
  | [], _, _, h => by unfold RepTs at h ⊢; exact h
  | t :: ts, _, k, h => by
    unfold RepTs at h ⊢
    obtain ⟨w, r, e, h1, h2⟩ := h
    exact ⟨w, r, e, RepT.mono s (fun b o hb => k b o (by simp [feet, hb])) h1, RepTs.mono s (fun b o hb => k b o (by simp [feet, hb])) h2⟩
end
mutual
theorem foot_some {K : PySem.W.Frag} {R B H : Hp} : ∀ {t : T} {v : V} {a : Addr}, RepT K R B H t v → a ∈ foot t → H a ≠ none
  | .un, _, _, _, h => by simp [foot] at h
  | .sh _, _, _, _, h => by simp [foot] at h
  | .br _, _, _, _, h => by simp [foot] at h
  | .lst b ts, _, a, r, h => by
    unfold RepT at r
    obtain ⟨_, ws, h1, h2⟩ := r
    rcases List.mem_cons.mp (by simpa [foot] using h) with rfl | h
    · rw [h1]; simp
    · exact feet_some h2 h
  | .ins b C ns ts, _, a, r, h => by
    unfold RepT at r
    obtain ⟨_, dx, ws, h1, hl, h2⟩ := r
    rcases List.mem_cons.mp (by simpa [foot] using h) with rfl | h
    · rw [h1]; simp
    · exact feet_some h2 h
  | .dT b kvs, _, a, r, h => by
    unfold RepT at r
    obtain ⟨_, kws, h1, _⟩ := r
    have e : a = b := by simpa [foot] using h
    rw [e, h1]; simp
theorem feet_some {K : PySem.W.Frag} {R B H : Hp} : ∀ {ts : List T} {ws : List V} {a : Addr}, RepTs K R B H ts ws → a ∈ feet ts → H a ≠ none
  | [], _, _, _, h => by simp [feet] at h
  | t :: ts, _, a, r, h => by
    unfold RepTs at r
    obtain ⟨w, r', _, h1, h2⟩ := r
    rcases List.mem_append.mp (by simpa [feet] using h) with h | h
    · exact foot_some h1 h
    · exact feet_some h2 h
end

/-! ### feet of rows -/
theorem feet_append : ∀ (xs ys : List T), feet (xs ++ ys) = feet xs ++ feet ys
  | [], ys => by simp [feet]
  | x :: xs, ys => by simp [feet, feet_append xs ys]
theorem mem_feet : ∀ {l : List T} {a : Addr}, a ∈ feet l → ∃ (i : Nat) (t : T), l[i]? = some t ∧ a ∈ foot t
  | [], _, h => by simp [feet] at h
  | t :: l, a, h => by
    rcases List.mem_append.mp (by simpa [feet] using h) with h | h
    · exact ⟨0, t, rfl, h⟩
    · obtain ⟨i, u, e, q⟩ := mem_feet h
      exact ⟨i + 1, u, by simpa using e, q⟩
theorem feet_mem : ∀ {l : List T} {i : Nat} {t : T} {a : Addr}, l[i]? = some t → a ∈ foot t → a ∈ feet l
  | [], _, _, _, e, _ => by simp at e
  | u :: l, 0, t, a, e, h => by
    have e' : u = t := by simpa using e
    subst e'
    simp [feet, h]
  | u :: l, i + 1, t, a, e, h => by
    have := feet_mem (l := l) (i := i) (by simpa using e) h
    simp [feet, this]
theorem feet_set_mem {l : List T} {i : Nat} {t : T} {a : Addr} (h : a ∈ feet (l.set i t)) : a ∈ foot t ∨ a ∈ feet l := by
  obtain ⟨j, u, e, q⟩ := mem_feet h
  by_cases hj : i = j
  · subst hj
    by_cases hl : i < l.length
    · rw [List.getElem?_set_self hl] at e
      have e' : t = u := Option.some.inj e
      subst e'
      exact .inl q
    · rw [List.getElem?_eq_none_iff.mpr (by rw [List.length_set]; omega)] at e
      cases e
  · rw [List.getElem?_set_ne hj] at e
    exact .inr (feet_mem e q)
theorem feet_set_nodup : ∀ {l : List T} {i : Nat} {t' : T}, (feet l).Nodup → (foot t').Nodup → (∀ a ∈ foot t', a ∈ feet l → ∃ t, l[i]? = some t ∧ a ∈ foot t) → (feet (l.set i t')).Nodup
  | [], i, t', h, _, _ => by simpa using h
  | u :: l, 0, t', h, h', d => by
    rw [List.set_cons_zero]
    simp only [feet] at h ⊢
    obtain ⟨h1, h2, h3⟩ := List.nodup_append.mp h
    refine List.nodup_append.mpr ⟨h', h2, fun a ha b hb e => ?_⟩
    subst e
    obtain ⟨t, e1, e2⟩ := d a ha (by simp [feet, hb])
    have e' : u = t := by simpa using e1
    subst e'
    exact h3 a e2 a hb rfl
  | u :: l, i + 1, t', h, h', d => by
    rw [List.set_cons_succ]
    simp only [feet] at h ⊢
    obtain ⟨h1, h2, h3⟩ := List.nodup_append.mp h
    refine List.nodup_append.mpr ⟨h1, feet_set_nodup h2 h' fun a ha hb => ?_, fun a ha b hb e => ?_⟩
    · obtain ⟨t, e1, e2⟩ := d a ha (by simp [feet, hb])
      exact ⟨t, by simpa using e1, e2⟩
    · subst e
      rcases feet_set_mem hb with q | q
      · obtain ⟨t, e1, e2⟩ := d a q (by simp [feet, ha])
        exact h3 a ha a (feet_mem (l := l) (i := i) (by simpa using e1) e2) rfl
      · exact h3 a ha a q rfl
theorem foot_nodup_of : ∀ {l : List T} {i : Nat} {t : T}, (feet l).Nodup → l[i]? = some t → (foot t).Nodup
  | [], _, _, _, e => by simp at e
  | u :: l, 0, t, h, e => by
    have e' : u = t := by simpa using e
    subst e'
    simp only [feet] at h
    exact (List.nodup_append.mp h).1
  | u :: l, i + 1, t, h, e => by
    simp only [feet] at h
    exact foot_nodup_of (i := i) (List.nodup_append.mp h).2.1 (by simpa using e)
theorem feet_uniq : ∀ {l : List T} {i j : Nat} {t u : T} {a : Addr}, (feet l).Nodup → l[i]? = some t → l[j]? = some u → a ∈ foot t → a ∈ foot u → i = j
  | [], _, _, _, _, _, _, e, _, _, _ => by simp at e
  | x :: l, 0, 0, _, _, _, _, _, _, _, _ => rfl
  | x :: l, 0, j + 1, t, u, a, h, e1, e2, h1, h2 => by
    have e' : x = t := by simpa using e1
    subst e'
    simp only [feet] at h
    exact absurd rfl ((List.nodup_append.mp h).2.2 a h1 a (feet_mem (l := l) (i := j) (by simpa using e2) h2))
  | x :: l, i + 1, 0, t, u, a, h, e1, e2, h1, h2 => by
    have e' : x = u := by simpa using e2
    subst e'
    simp only [feet] at h
    exact absurd rfl ((List.nodup_append.mp h).2.2 a h2 a (feet_mem (l := l) (i := i) (by simpa using e1) h1))
  | x :: l, i + 1, j + 1, t, u, a, h, e1, e2, h1, h2 => by
    simp only [feet] at h
    rw [feet_uniq (i := i) (j := j) (List.nodup_append.mp h).2.1 (by simpa using e1) (by simpa using e2) h1 h2]

/-! ### a step of the heap -/
structure Tr (B H : Hp) (F : List Addr) (B' H' : Hp) (F' : List Addr) : Prop where
  sub : Sub B B'
  keep : ∀ a o, a ∉ F → H a = some o → H' a = some o
  foot : ∀ a, a ∈ F' → a ∈ F ∨ H a = none
  base : ∀ a o, B' a = some o → B a = some o ∨ a ∈ F ∨ H a = none
  there : ∀ a, H' a = none → H a = none
theorem Tr.refl (B H : Hp) (F : List Addr) : Tr B H F B H F := ⟨Sub.refl B, fun _ _ _ h => h, fun _ h => .inl h, fun _ _ h => .inl h, fun _ h => h⟩
theorem Tr.trans {B H B1 H1 B2 H2 : Hp} {F F1 F2 : List Addr} (a : Tr B H F B1 H1 F1) (b : Tr B1 H1 F1 B2 H2 F2) : Tr B H F B2 H2 F2 := by
  refine ⟨a.sub.trans b.sub, fun x o hx e => b.keep x o (fun hf => ?_) (a.keep x o hx e), fun x hx => ?_, fun x o e => ?_, fun x e => a.there x (b.there x e)⟩
  · rcases a.foot x hf with q | q
    · exact hx q
    · rw [e] at q; cases q
  · rcases b.foot x hx with q | q
    · exact a.foot x q
    · exact .inr (a.there x q)
  · rcases b.base x o e with q | q | q
    · exact a.base x o q
    · rcases a.foot x q with q | q
      · exact .inr (.inl q)
      · exact .inr (.inr q)
    · exact .inr (.inr (a.there x q))
/-- all tracked objects stay -/
theorem Tr.new {B H B' H' : Hp} {F : List Addr} (s : Sub B B') (k : Sub H H') (b : ∀ a o, B' a = some o → B a = some o ∨ H a = none) : Tr B H F B' H' F :=
  ⟨s, fun a o _ e => k a o e, fun _ h => .inl h, fun a o e => (b a o e).imp id .inr, fun a e => by
    cases q : H a with
    | none => rfl
    | some o => rw [k a o q] at e; cases e⟩

/-! ### the state of a frame -/
structure Rep (K : PySem.W.Frag) (R B H : Hp) (S : List T) (σ : L2.St) : Prop where
  bh : Sub B H
  rh : Sub R H
  nd : (feet S).Nodup
  bf : ∀ a ∈ feet S, B a = none
  rf : ∀ a ∈ feet S, R a = none
  len : S.length = σ.length
  sl : ∀ (i : Nat) (t : T), S[i]? = some t → t = .un ∨ ∃ v, σ[i]? = some (some v) ∧ RepT K R B H t v
def adr : T → Option Addr
  | .lst a _ => some a
  | .ins a _ _ _ => some a
  | .dT a _ => some a
  | _ => none
def T.at : T → List Nat → Option T
  | t, [] => some t
  | .lst _ ts, k :: p => (ts[k]?).bind fun u => u.at p
  | .ins _ _ _ ts, k :: p => (ts[k]?).bind fun u => u.at p
  | _, _ :: _ => none
def node (S : List T) (i : Nat) (p : List Nat) : Option T := (S[i]?).bind fun t => t.at p
mutual
def toD : T → D
  | .un => .bad
  | .sh d => d
  | .br d => d
  | .lst _ ts => .lst (toDs ts)
  | .ins _ C ns ts => .ins C ns (toDs ts)
  | .dT _ _ => .bad
def toDs : List T → List D
  | [] => []
  | t :: ts => toD t :: toDs ts
end
theorem toDs_map : ∀ ts : List T, toDs ts = ts.map toD
  | [] => by simp [toDs]
  | t :: ts => by simp [toDs, toDs_map ts]
/-- what an expression gives: shared data, borrowed data, a new tree, a place in the trees of the frame -/
inductive P where
  | sh (d : D) | br (d : D) | ow (t : T) | at (i : Nat) (p : List Nat)
def pk (S : List T) : P → D
  | .sh d => d
  | .br d => d
  | .ow t => toD t
  | .at i p => match node S i p with
    | some t => toD t
    | none => .bad
def RepP (K : PySem.W.Frag) (R B H : Hp) (S : List T) : P → V → Prop
  | .sh d, v => RepD K B d v
  | .br d, v => RepD K R d v
  | .ow t, v => RepT K R B H t v ∧ (foot t).Nodup ∧ ∀ a ∈ foot t, a ∉ feet S ∧ B a = none ∧ R a = none
  | .at i p, v => ∃ t a, node S i p = some t ∧ adr t = some a ∧ v = .ref a
def okAt (p : P) (S S' : List T) : Prop := match p with
  | .at i q => (node S' i q).bind adr = (node S i q).bind adr
  | _ => True

mutual
theorem RepT.toD {K : PySem.W.Frag} {R B H : Hp} (b : Sub B H) (r : Sub R H) : ∀ {t : T} {v : V}, RepT K R B H t v → RepD K H (toD t) v
  | .un, _, _ => by unfold SL.toD RepD; trivial
  | .sh _, _, h => by unfold RepT at h; unfold SL.toD; exact h.mono b
  | .br _, _, h => by unfold RepT at h; unfold SL.toD; exact h.mono r
  | .lst a ts, _, h => by
    unfold RepT at h; unfold SL.toD RepD
    obtain ⟨e, ws, h1, h2⟩ := h
    exact ⟨a, ws, e, h1, RepTs.toDs b r h2⟩
  | .ins a C ns ts, _, h => by
    unfold RepT at h; unfold SL.toD RepD
    obtain ⟨e, dx, ws, h1, hl, h2⟩ := h
    exact ⟨a, dx, ws, e, h1, hl, RepTs.toDs b r h2⟩
  | .dT a kvs, _, h => by unfold SL.toD RepD; trivial
theorem RepTs.toDs {K : PySem.W.Frag} {R B H : Hp} (b : Sub B H) (r : Sub R H) : ∀ {ts : List T} {ws : List V}, RepTs K R B H ts ws → RepDs K H (toDs ts) ws
  | [], _, h => by unfold RepTs at h; unfold SL.toDs RepDs; exact h
  | t :: ts, _, h => by
    unfold RepTs at h; unfold SL.toDs RepDs
    obtain ⟨w, r', e, h1, h2⟩ := h
    exact ⟨w, r', e, RepT.toD b r h1, RepTs.toDs b r h2⟩
end
theorem RepT.adr {K : PySem.W.Frag} {R B H : Hp} {t : T} {v : V} {a : Addr} (h : RepT K R B H t v) (e : SL.adr t = some a) : v = .ref a := by
  cases t <;> simp only [SL.adr] at e <;> cases e
  all_goals (unfold RepT at h; exact h.1)
theorem RepT.node {K : PySem.W.Frag} {R B H : Hp} : ∀ {t u : T} {v : V} (p : List Nat), RepT K R B H t v → t.at p = some u → ∃ w, RepT K R B H u w
  | t, u, v, [], h, e => by
    have e' : t = u := by simpa [T.at] using e
    subst e'
    exact ⟨v, h⟩
  | .un, _, _, _ :: _, _, e => by simp [T.at] at e
  | .sh _, _, _, _ :: _, _, e => by simp [T.at] at e
  | .br _, _, _, _ :: _, _, e => by simp [T.at] at e
  | .dT _ _, _, _, _ :: _, _, e => by simp [T.at] at e
  | .lst a ts, u, v, k :: p, h, e => by
    unfold RepT at h
    obtain ⟨_, ws, h1, h2⟩ := h
    simp only [T.at] at e
    cases q : ts[k]? with
    | none => rw [q] at e; cases e
    | some t' =>
      rw [q] at e
      obtain ⟨w, _, h3⟩ := h2.get q
      exact RepT.node p h3 e
  | .ins a C ns ts, u, v, k :: p, h, e => by
    unfold RepT at h
    obtain ⟨_, dx, ws, h1, hl, h2⟩ := h
    simp only [T.at] at e
    cases q : ts[k]? with
    | none => rw [q] at e; cases e
    | some t' =>
      rw [q] at e
      obtain ⟨w, _, h3⟩ := h2.get q
      exact RepT.node p h3 e
theorem Rep.node {K : PySem.W.Frag} {R B H : Hp} {S : List T} {σ : L2.St} (r : Rep K R B H S σ) {i : Nat} {p : List Nat} {t : T} {a : Addr} (e : node S i p = some t) (ea : adr t = some a) : RepT K R B H t (.ref a) := by
  unfold SL.node at e
  cases q : S[i]? with
  | none => rw [q] at e; cases e
  | some u =>
    rw [q] at e
    have e : u.at p = some t := e
    rcases r.sl i u q with h | ⟨v, _, h⟩
    · subst h
      cases p with
      | nil =>
        have e' : T.un = t := by simpa [T.at] using e
        subst e'
        cases ea
      | cons k p => simp [T.at] at e
    · obtain ⟨w, h2⟩ := h.node p e
      rw [h2.adr ea] at h2
      exact h2
theorem Rep.pk {K : PySem.W.Frag} {R B H : Hp} {S : List T} {σ : L2.St} (r : Rep K R B H S σ) : ∀ {p : P} {v : V}, RepP K R B H S p v → RepD K H (pk S p) v
  | .sh d, _, h => by unfold RepP at h; exact h.mono r.bh
  | .br d, _, h => by unfold RepP at h; exact h.mono r.rh
  | .ow t, _, h => by unfold RepP at h; exact h.1.toD r.bh r.rh
  | .at i p, v, h => by
    unfold RepP at h
    obtain ⟨t, a, e, ea, rfl⟩ := h
    have h := (r.node e ea).toD r.bh r.rh
    show RepD K H (match SL.node S i p with
      | some t => toD t
      | none => .bad) _
    rw [e]
    exact h
/-- what was evaluated stays what it is -/
theorem RepP.mv {K : PySem.W.Frag} {R B H B' H' : Hp} {S S' : List T} {p : P} {v : V} (h : RepP K R B H S p v) (tr : Tr B H (feet S) B' H' (feet S')) (k : okAt p S S') : RepP K R B' H' S' p v := by
  cases p with
  | sh d => unfold RepP at h ⊢; exact h.mono tr.sub
  | br d => unfold RepP at h ⊢; exact h
  | ow t =>
    unfold RepP at h ⊢
    obtain ⟨h1, h2, h3⟩ := h
    refine ⟨h1.mono tr.sub fun a o ha e => tr.keep a o (h3 a ha).1 e, h2, fun a ha => ⟨fun q => ?_, ?_, (h3 a ha).2.2⟩⟩
    · rcases tr.foot a q with q | q
      · exact (h3 a ha).1 q
      · exact foot_some h1 ha q
    · cases q : B' a with
      | none => rfl
      | some o =>
        rcases tr.base a o q with z | z | z
        · rw [(h3 a ha).2.1] at z; cases z
        · exact absurd z (h3 a ha).1
        · exact absurd z (foot_some h1 ha)
  | «at» i q =>
    unfold RepP at h ⊢
    obtain ⟨t, a, e, ea, rfl⟩ := h
    have k' : (node S' i q).bind adr = (node S i q).bind adr := k
    rw [e] at k'
    cases e' : node S' i q with
    | none => rw [e'] at k'; simp [ea] at k'
    | some t' =>
      rw [e'] at k'
      have : adr t' = some a := by simpa [ea] using k'
      exact ⟨t', a, e', this, rfl⟩
/-- a state over a heap that bears more -/
theorem Rep.more {K : PySem.W.Frag} {R B H B' H' : Hp} {S : List T} {σ : L2.St} (r : Rep K R B H S σ) (s : Sub B B') (k : Sub H H') (bh : Sub B' H') (b : ∀ a o, B' a = some o → B a = some o ∨ H a = none) : Rep K R B' H' S σ := by
  refine ⟨bh, r.rh.trans k, r.nd, fun a ha => ?_, r.rf, r.len, fun i t e => (r.sl i t e).imp id fun ⟨v, e1, e2⟩ => ⟨v, e1, e2.mono s fun a o _ h => k a o h⟩⟩
  cases q : B' a with
  | none => rfl
  | some o =>
    rcases b a o q with z | z
    · rw [r.bf a ha] at z; cases z
    · obtain ⟨i, t, e, ht⟩ := mem_feet ha
      rcases r.sl i t e with rfl | ⟨v, _, h⟩
      · simp [SL.foot] at ht
      · exact absurd z (foot_some h ht)
theorem Rep.feet_some {K : PySem.W.Frag} {R B H : Hp} {S : List T} {σ : L2.St} (r : Rep K R B H S σ) {a : Addr} (ha : a ∈ feet S) : H a ≠ none := by
  obtain ⟨i, t, e, ht⟩ := mem_feet ha
  rcases r.sl i t e with rfl | ⟨v, _, h⟩
  · simp [SL.foot] at ht
  · exact foot_some h ht
end SL

set_option Elab.async false
set_option linter.all false
set_option maxRecDepth 100000
set_option maxHeartbeats 4000000
/-! SL2: expressions. -/
namespace SL
open PySem PySem.Spec PyProof.Rows L2

structure Ev where
  cls : Addr
  ns : List Str
  xs : List D
/-- where a def was entered -/
structure Ct where
  R : Hp
  B0 : Hp
  H0 : Hp
  F0 : List Addr
structure Ok (K : PySem.W.Frag) (c : Ct) (B H : Hp) (S : List T) (σ : L2.St) : Prop where
  rep : Rep K c.R B H S σ
  tr : Tr c.B0 c.H0 c.F0 B H (feet S)
abbrev KP := P → List T → Prop
abbrev KE := Ev → List T → Prop
abbrev WE := List T → KP → KE → Prop
abbrev WA := List T → (List P → List T → Prop) → KE → Prop
abbrev WT := List T → (Bool → List T → Prop) → KE → Prop
def footP : P → List Addr
  | .ow t => foot t
  | _ => []
def feetP : List P → List Addr
  | [] => []
  | p :: ps => footP p ++ feetP ps
/-- what must follow a value; F: the feet of what was evaluated ahead of it -/
def Post (K : PySem.W.Frag) (c : Ct) (B H : Hp) (S : List T) (F : List Addr) (σ : L2.St) (Kp : KP) (Q : VK) : Prop :=
  ∀ p S' v B' H', Kp p S' → Ok K c B' H' S' σ → Tr B H (feet S ++ F) B' H' (feet S' ++ footP p) → RepP K c.R B' H' S' p v → Q v H'
inductive RepPs (K : PySem.W.Frag) (R B H : Hp) (S : List T) : List P → List V → Prop
  | nil : RepPs K R B H S [] []
  | cons {p : P} {v : V} {ps : List P} {vs : List V} : RepP K R B H S p v → (∀ a ∈ footP p, a ∉ feetP ps) → RepPs K R B H S ps vs → RepPs K R B H S (p :: ps) (v :: vs)
theorem okAt.refl (p : P) (S : List T) : okAt p S S := by
  unfold okAt
  split <;> first | rfl | trivial
def tE (K : PySem.W.Frag) (c : Ct) (Ke : KE) (f : WE) : TE := fun σ H Q => ∃ S B Kp, Ok K c B H S σ ∧ f S Kp Ke ∧ Post K c B H S [] σ Kp Q
def tT (K : PySem.W.Frag) (c : Ct) (Ke : KE) (f : WT) : TT := fun σ H Q => ∃ S B Kb, Ok K c B H S σ ∧ f S Kb Ke ∧
  ∀ b S' B' H', Kb b S' → Ok K c B' H' S' σ → Tr B H (feet S) B' H' (feet S') → Q b H'
def tA (K : PySem.W.Frag) (c : Ct) (Ke : KE) (f : WA) : TA := fun σ H Q => ∃ S B Kp, Ok K c B H S σ ∧ f S Kp Ke ∧
  ∀ ps S' vs B' H', Kp ps S' → Ok K c B' H' S' σ → Tr B H (feet S) B' H' (feet S' ++ feetP ps) → RepPs K c.R B' H' S' ps vs → Q vs H'

/-! ### steps with temporaries -/
theorem Tr.left {B H B' H' : Hp} {F F' G : List Addr} (t : Tr B H F B' H' (F' ++ G)) : Tr B H F B' H' F' := ⟨t.sub, t.keep, fun a h => t.foot a (List.mem_append_left _ h), t.base, t.there⟩
theorem Tr.nil {B H B' H' : Hp} {F F' : List Addr} (t : Tr B H (F ++ []) B' H' F') : Tr B H F B' H' F' := by rw [List.append_nil] at t; exact t
theorem Tr.nil' {B H B' H' : Hp} {F F' : List Addr} (t : Tr B H F B' H' F') : Tr B H F B' H' (F' ++ []) := by rw [List.append_nil]; exact t
theorem Tr.wide {B H B' H' : Hp} {F F' G : List Addr} (t : Tr B H F B' H' F') : Tr B H (F ++ G) B' H' (F' ++ G) := by
  refine ⟨t.sub, fun a o h e => t.keep a o (fun q => h (List.mem_append_left _ q)) e, fun a h => ?_, fun a o e => ?_, t.there⟩
  · rcases List.mem_append.mp h with q | q
    · exact (t.foot a q).imp (List.mem_append_left _) id
    · exact .inl (List.mem_append_right _ q)
  · exact (t.base a o e).imp id fun z => z.imp (List.mem_append_left _) id
/-- a temporary of the first step is carried over the second one -/
theorem Tr.temp {B H B1 H1 B2 H2 : Hp} {F F1 F2 G1 : List Addr} (t1 : Tr B H F B1 H1 (F1 ++ G1)) (t2 : Tr B1 H1 F1 B2 H2 F2) : Tr B H F B2 H2 (F2 ++ G1) := t1.trans t2.wide
theorem mem_swap {F A G : List Addr} {a : Addr} (h : a ∈ F ++ (A ++ G)) : a ∈ F ++ G ++ A := by
  simp only [List.mem_append] at h ⊢
  rcases h with h | h | h
  · exact .inl (.inl h)
  · exact .inr h
  · exact .inl (.inr h)
theorem Tr.perm {B H B' H' : Hp} {F F' G : List Addr} (t : Tr B H F B' H' F') (h : ∀ a, a ∈ G → a ∈ F') : Tr B H F B' H' G := ⟨t.sub, t.keep, fun a q => t.foot a (h a q), t.base, t.there⟩
theorem RepP.some {K : PySem.W.Frag} {R B H : Hp} {S : List T} {p : P} {v : V} (h : RepP K R B H S p v) {a : Addr} (ha : a ∈ footP p) : H a ≠ none ∧ a ∉ feet S ∧ B a = none ∧ R a = none := by
  cases p with
  | ow t =>
    unfold RepP at h
    exact ⟨foot_some h.1 ha, h.2.2 a ha⟩
  | sh d => simp [footP] at ha
  | br d => simp [footP] at ha
  | «at» i q => simp [footP] at ha
/-- a temporary and a later step: its feet are not among the new ones -/
theorem RepP.off {K : PySem.W.Frag} {R B H B' H' : Hp} {S : List T} {p : P} {v : V} {F' : List Addr} (h : RepP K R B H S p v) (t : Tr B H (feet S) B' H' F') {a : Addr} (ha : a ∈ footP p) : a ∉ F' := fun q => by
  obtain ⟨h1, h2, _⟩ := h.some ha
  rcases t.foot a q with z | z
  · exact h2 z
  · exact h1 z
theorem RepPs.mv {K : PySem.W.Frag} {R B H B' H' : Hp} {S S' : List T} {ps : List P} {vs : List V} (h : RepPs K R B H S ps vs) (tr : Tr B H (feet S) B' H' (feet S')) (k : ∀ p ∈ ps, okAt p S S') : RepPs K R B' H' S' ps vs := by
  induction h with
  | nil => exact .nil
  | cons r d _ ih => exact .cons (r.mv tr (k _ List.mem_cons_self)) d (ih fun p hp => k p (List.mem_cons_of_mem _ hp))

section
variable {X : Cx} {e : Expr} {es : List Expr} {t t' : TE} {tt tt' : TT} {ta ta' : TA}
theorem wkE (h : PE X e t) (i : ∀ σ H Q, t' σ H Q → t σ H Q) : PE X e t' := ⟨fun pins s σ H Q I q => h.run pins s σ H Q I (i σ H Q q)⟩
theorem wkT (h : PT X e tt) (i : ∀ σ H Q, tt' σ H Q → tt σ H Q) : PT X e tt' := ⟨fun pins s σ H Q I q => h.run pins s σ H Q I (i σ H Q q)⟩
theorem wkW (h : PW X e tt) (i : ∀ σ H Q, tt' σ H Q → tt σ H Q) : PW X e tt' := ⟨fun w pins s σ H Q I q => h.run w pins s σ H Q I (i σ H Q q)⟩
theorem wkA (h : PA X es ta) (i : ∀ σ H Q, ta' σ H Q → ta σ H Q) : PA X es ta' := ⟨fun p pins s σ H Q I q => h.run p pins s σ H Q I (i σ H Q q)⟩
end

section
variable {K : PySem.W.Frag} {c : Ct} {B H B' H' : Hp} {S S' : List T} {σ : L2.St} {Kp : KP} {Q : VK} {F : List Addr}
/-- a value out of what stands -/
theorem Post.here (h : Post K c B H S F σ Kp Q) (ok : Ok K c B H S σ) {p : P} {v : V} (k : Kp p S) (r : RepP K c.R B H S p v) (hf : ∀ a ∈ footP p, a ∈ F := by intro _ h; exact absurd h List.not_mem_nil) : Q v H :=
  h p S v B H k ok ((Tr.refl B H (feet S ++ F)).perm fun a q => (List.mem_append.mp q).elim (List.mem_append_left _) fun z => List.mem_append_right _ (hf a z)) r
theorem Ok.step (ok : Ok K c B H S σ) (r : Rep K c.R B' H' S' σ) (t : Tr B H (feet S) B' H' (feet S')) : Ok K c B' H' S' σ := ⟨r, ok.tr.trans t⟩
/-- the heap bears one more, shared -/
theorem Ok.share1 (ok : Ok K c B H S σ) {a : Addr} {o : HO} (n : H a = none) : Ok K c (upd B a o) (upd H a o) S σ ∧ Tr B H (feet S) (upd B a o) (upd H a o) (feet S) := by
  have hB : B a = none := by
    cases q : B a with
    | none => rfl
    | some u => rw [ok.rep.bh a u q] at n; cases n
  have s1 : Sub B (upd B a o) := fun b u e => by
    rw [upd_ne (ne_of_none e hB)]; exact e
  have s2 : Sub H (upd H a o) := fun b u e => by
    rw [upd_ne (ne_of_none e n)]; exact e
  have s3 : ∀ b u, upd B a o b = some u → B b = some u ∨ H b = none := fun b u e => by
    by_cases h : b = a
    · subst h; exact .inr n
    · rw [upd_ne h] at e; exact .inl e
  have t := Tr.new (F := feet S) s1 s2 s3
  refine ⟨ok.step (ok.rep.more s1 s2 (fun b u e => ?_) s3) t, t⟩
  by_cases h : b = a
  · subst h; rw [upd_same] at e ⊢; exact e
  · rw [upd_ne h] at e ⊢; exact ok.rep.bh b u e
/-- the heap bears one more, owned -/
theorem Ok.own1 (ok : Ok K c B H S σ) {a : Addr} {o : HO} (n : H a = none) : Ok K c B (upd H a o) S σ ∧ Tr B H (feet S) B (upd H a o) (feet S) := by
  have s2 : Sub H (upd H a o) := fun b u e => by
    rw [upd_ne (ne_of_none e n)]; exact e
  have t := Tr.new (F := feet S) (Sub.refl B) s2 fun b u e => .inl e
  exact ⟨ok.step (ok.rep.more (Sub.refl B) s2 (ok.rep.bh.trans s2) fun b u e => .inl e) t, t⟩
theorem none_of_sub {A C : Hp} (s : Sub A C) {a : Addr} (h : C a = none) : A a = none := by
  cases q : A a with
  | none => rfl
  | some u => rw [s a u q] at h; cases h
theorem pk_int {p : P} {v : V} {i : Int} (r : Rep K c.R B H S σ) (h : RepP K c.R B H S p v) (e : pk S p = .int i) : v = .int i := by
  have := r.pk h; rw [e] at this; unfold RepD at this; exact this
theorem pk_bl {p : P} {v : V} {i : Bool} (r : Rep K c.R B H S σ) (h : RepP K c.R B H S p v) (e : pk S p = .bl i) : v = .bl i := by
  have := r.pk h; rw [e] at this; unfold RepD at this; exact this
theorem pk_str {p : P} {v : V} {i : Str} (r : Rep K c.R B H S σ) (h : RepP K c.R B H S p v) (e : pk S p = .str i) : v = .str i := by
  have := r.pk h; rw [e] at this; unfold RepD at this; exact this
theorem pk_non {p : P} {v : V} (r : Rep K c.R B H S σ) (h : RepP K c.R B H S p v) (e : pk S p = .non) : v = .non := by
  have := r.pk h; rw [e] at this; unfold RepD at this; exact this
theorem pk_lst {p : P} {v : V} {ds : List D} (r : Rep K c.R B H S σ) (h : RepP K c.R B H S p v) (e : pk S p = .lst ds) : ∃ a ws, v = .ref a ∧ H a = some (.lst ws) ∧ RepDs K H ds ws := by
  have := r.pk h; rw [e] at this; unfold RepD at this; exact this
theorem pk_tup {p : P} {v : V} {ds : List D} (r : Rep K c.R B H S σ) (h : RepP K c.R B H S p v) (e : pk S p = .tup ds) : ∃ a ws, v = .ref a ∧ SqT K H a ws ∧ RepDs K H ds ws := by
  have := r.pk h; rw [e] at this; unfold RepD at this; exact this
end

/-! ### names, constants -/
def wVar (i : Nat) : WE := fun S Kp _ => match S[i]? with
  | some (.sh d) => Kp (.sh d) S
  | some (.br d) => Kp (.br d) S
  | some .un => False
  | none => False
  | some _ => Kp (.at i []) S
def wC (d : D) : WE := fun S Kp _ => Kp (.sh d) S
section
variable {X : Cx} {c : Ct} {Ke : KE}
theorem i_var (i : Nat) {x : Str} {pos : Pos} (h : PE X (.Name x pos) (tVar i) := by exact pv _) : PE X (.Name x pos) (tE X.K c Ke (wVar i)) := by
  refine wkE h fun σ H Q q => ?_
  obtain ⟨S, B, Kp, ok, hf, post⟩ := q
  unfold wVar at hf
  cases e : S[i]? with
  | none => rw [e] at hf; exact hf.elim
  | some t =>
    rw [e] at hf
    have own : ∀ a, SL.adr t = some a → Kp (.at i []) S → tVar i σ H Q := fun a ea hf => by
      rcases ok.rep.sl i t e with rfl | ⟨v, e1, h1⟩
      · cases ea
      · have hn : SL.node S i [] = some t := by unfold SL.node; rw [e]; rfl
        have r : RepP X.K c.R B H S (.at i []) v := ⟨t, a, hn, ea, h1.adr ea⟩
        exact ⟨v, e1, post.here ok hf r⟩
    cases t with
    | un => exact hf.elim
    | sh d =>
      rcases ok.rep.sl i _ e with h | ⟨v, e1, h1⟩
      · cases h
      · have r : RepP X.K c.R B H S (.sh d) v := by unfold RepT at h1; exact h1
        exact ⟨v, e1, post.here ok hf r⟩
    | br d =>
      rcases ok.rep.sl i _ e with h | ⟨v, e1, h1⟩
      · cases h
      · have r : RepP X.K c.R B H S (.br d) v := by unfold RepT at h1; exact h1
        exact ⟨v, e1, post.here ok hf r⟩
    | lst a ts => exact own a rfl hf
    | ins a C ns ts => exact own a rfl hf
    | dT a kvs => exact own a rfl hf
/-- a value that needs no heap -/
def flat (d : D) (v : V) : Prop := ∀ K B, RepD K B d v
theorem flat_int (i : Int) : flat (.int i) (.int i) := fun _ _ => by unfold RepD; rfl
theorem flat_bl (i : Bool) : flat (.bl i) (.bl i) := fun _ _ => by unfold RepD; rfl
theorem flat_str (i : Str) : flat (.str i) (.str i) := fun _ _ => by unfold RepD; rfl
theorem flat_non : flat .non .non := fun _ _ => by unfold RepD; rfl
theorem flat_obj (a : Addr) : flat (.obj a) (.ref a) := fun _ _ => by unfold RepD; rfl
theorem i_c {e : Expr} {d : D} {v : V} (h : PE X e (tC v)) (hd : flat d v) : PE X e (tE X.K c Ke (wC d)) := by
  refine wkE h fun σ H Q q => ?_
  obtain ⟨S, B, Kp, ok, hf, post⟩ := q
  exact post.here ok hf (p := .sh d) (hd X.K B)
/-- a constant of the module: a tuple that stands in the written part .. -/
theorem i_cK {e : Expr} {d : D} {v : V} (h : PE X e (tC v)) (hd : ∀ B, RepD X.K B d v) : PE X e (tE X.K c Ke (wC d)) := by
  refine wkE h fun σ H Q q => ?_
  obtain ⟨S, B, Kp, ok, hf, post⟩ := q
  exact post.here ok hf (p := .sh d) (hd B)
theorem i_int {i : Int} {j pos} : PE X (.Constant (.int i) j pos) (tE X.K c Ke (wC (.int i))) := i_c pe_int (flat_int i)
theorem i_bl {i : Bool} {j pos} : PE X (.Constant (.bool i) j pos) (tE X.K c Ke (wC (.bl i))) := i_c pe_bl (flat_bl i)
theorem i_non {j pos} : PE X (.Constant .none j pos) (tE X.K c Ke (wC .non)) := i_c pe_non flat_non
theorem i_str {i : Str} {j pos} : PE X (.Constant (.str i) j pos) (tE X.K c Ke (wC (.str i))) := i_c pe_str (flat_str i)
end

/-! ### operators, by rules -/
abbrev O1 := List T → P → KP → Prop
abbrev O2 := List T → P → P → KP → Prop
abbrev OA := List T → List P → KP → Prop
abbrev OM := List T → P → List P → KP → Prop
def Op1 (K : PySem.W.Frag) (r : V → Hp → VK → Prop) (g : O1) : Prop := ∀ c B H S σ p v Kp Q, Ok K c B H S σ → Tr c.B0 c.H0 c.F0 B H (feet S ++ footP p) → RepP K c.R B H S p v → g S p Kp → Post K c B H S (footP p) σ Kp Q → r v H Q
def Op2 (K : PySem.W.Frag) (r : R2) (g : O2) : Prop := ∀ c B H S σ p q v w Kp Q, Ok K c B H S σ → Tr c.B0 c.H0 c.F0 B H (feet S ++ (footP p ++ footP q)) → RepP K c.R B H S p v → RepP K c.R B H S q w → (∀ a ∈ footP p, a ∉ footP q) → g S p q Kp → Post K c B H S (footP p ++ footP q) σ Kp Q → r v w H Q
def OpA (K : PySem.W.Frag) (r : List V → Hp → VK → Prop) (g : OA) : Prop := ∀ c B H S σ ps vs Kp Q, Ok K c B H S σ → Tr c.B0 c.H0 c.F0 B H (feet S ++ feetP ps) → RepPs K c.R B H S ps vs → g S ps Kp → Post K c B H S (feetP ps) σ Kp Q → r vs H Q
def OpM (K : PySem.W.Frag) (r : V → List V → Hp → VK → Prop) (g : OM) : Prop := ∀ c B H S σ p v ps vs Kp Q, Ok K c B H S σ → Tr c.B0 c.H0 c.F0 B H (feet S ++ (footP p ++ feetP ps)) → RepP K c.R B H S p v → RepPs K c.R B H S ps vs → (∀ a ∈ footP p, a ∉ feetP ps) → g S p ps Kp → Post K c B H S (footP p ++ feetP ps) σ Kp Q → r v vs H Q
def w1 (g : O1) (f : WE) : WE := fun S Kp Ke => f S (fun p S1 => g S1 p Kp) Ke
def w2 (g : O2) (f h : WE) : WE := fun S Kp Ke => f S (fun p S1 => h S1 (fun q S2 => okAt p S1 S2 ∧ g S2 p q Kp) Ke) Ke
def wCB (g : OA) (f : WA) : WE := fun S Kp Ke => f S (fun ps S1 => g S1 ps Kp) Ke
def wNil : WA := fun S Kp _ => Kp [] S
def wCons (f : WE) (h : WA) : WA := fun S Kp Ke => f S (fun p S1 => h S1 (fun ps S2 => okAt p S1 S2 ∧ Kp (p :: ps) S2) Ke) Ke
section
variable {X : Cx} {c : Ct} {Ke : KE} {a b e : Expr} {es : List Expr} {f h : WE} {fa : WA} {pos : Pos}
theorem post_after {K : PySem.W.Frag} {c : Ct} {B H B1 H1 : Hp} {S S1 : List T} {F : List Addr} {σ : L2.St} {Kp : KP} {Q : VK} (t : Tr B H (feet S) B1 H1 (feet S1 ++ F)) (p : Post K c B H S [] σ Kp Q) : Post K c B1 H1 S1 F σ Kp Q :=
  fun q S' v B' H' k ok t' r => p q S' v B' H' k ok (by rw [List.append_nil]; exact t.trans t') r
theorem tOp_of {r : R2} {g : O2} (hg : Op2 X.K r g) : ∀ σ H Q, tE X.K c Ke (w2 g f h) σ H Q → tOp r (tE X.K c Ke f) (tE X.K c Ke h) σ H Q := by
  rintro σ H Q ⟨S, B, Kp, ok, hf, post⟩
  refine ⟨S, B, _, ok, hf, fun p S1 v B1 H1 h1 ok1 t1 r1 => ?_⟩
  refine ⟨S1, B1, _, ok1, h1, fun q S2 w B2 H2 h2 ok2 t2 r2 => ?_⟩
  have t1 := t1.nil
  have t2 := t2.nil
  have t3 := (t1.temp t2).perm (G := feet S2 ++ (footP p ++ footP q)) fun a ha => mem_swap ha
  exact hg c B2 H2 S2 σ p q v w Kp Q ok2 (ok.tr.trans t3) (r1.mv t2.left h2.1) r2 (fun a ha hq => r1.off t2 ha (List.mem_append_right _ hq)) h2.2 (post_after t3 post)
theorem i_op {op : Operator} {r : R2} {g : O2} (ho : OpR X (binaryOp op) r) (hg : Op2 X.K r g) (ha : PE X a (tE X.K c Ke f)) (hb : PE X b (tE X.K c Ke h)) : PE X (.BinOp a op b pos) (tE X.K c Ke (w2 g f h)) :=
  wkE (pe_op ho ha hb) (tOp_of hg)
theorem i_cmp {op : CmpOp} {r : R2} {g : O2} (ho : OpR X (compareOp op) r) (hg : Op2 X.K r g) (ha : PE X a (tE X.K c Ke f)) (hb : PE X b (tE X.K c Ke h)) (hm : behindInMarks op b = false := by first | exact nomark _ | rfl) : PE X (.Compare a [op] [b] pos) (tE X.K c Ke (w2 g f h)) :=
  wkE (pe_cmpR ho ha hb hm) (tOp_of hg)
theorem i_ix {r : R2} {g : O2} (hr : IxR X r) (hg : Op2 X.K r g) (ha : PE X a (tE X.K c Ke f)) (hb : PE X b (tE X.K c Ke h)) (hs : PlainIx b := by exact fun _ _ => rfl) : PE X (.Subscript a b pos) (tE X.K c Ke (w2 g f h)) :=
  wkE (pe_ix hr ha hb hs) (tOp_of hg)
theorem i_un {op : UnaryOp} {r : V → Hp → VK → Prop} {g : O1} (ho : UnR X (unaryOp op) r) (hg : Op1 X.K r g) (ha : PE X a (tE X.K c Ke f)) : PE X (.UnaryOp op a pos) (tE X.K c Ke (w1 g f)) := by
  refine wkE (pe_un ho ha) ?_
  rintro σ H Q ⟨S, B, Kp, ok, hf, post⟩
  refine ⟨S, B, _, ok, hf, fun p S1 v B1 H1 h1 ok1 t1 r1 => ?_⟩
  exact hg c B1 H1 S1 σ p v Kp Q ok1 (ok.tr.trans t1.nil) r1 h1 (post_after t1.nil post)
theorem i_nil : PA X [] (tA X.K c Ke wNil) := by
  refine wkA pa_nil ?_
  rintro σ H Q ⟨S, B, Kp, ok, hf, post⟩
  exact post [] S [] B H hf ok (Tr.refl _ _ _).nil' .nil
theorem i_cons (ha : PE X e (tE X.K c Ke f)) (hr : PA X es (tA X.K c Ke fa)) (hs : starEach (e :: es) X.env = (false, eval e X.env) :: starEach es X.env := by rfl) : PA X (e :: es) (tA X.K c Ke (wCons f fa)) := by
  refine wkA (pa_cons ha hr hs) ?_
  rintro σ H Q ⟨S, B, Kp, ok, hf, post⟩
  refine ⟨S, B, _, ok, hf, fun p S1 v B1 H1 h1 ok1 t1 r1 => ?_⟩
  refine ⟨S1, B1, _, ok1, h1, fun ps S2 vs B2 H2 h2 ok2 t2 r2 => ?_⟩
  have t1 := t1.nil
  exact post (p :: ps) S2 (v :: vs) B2 H2 h2.2 ok2 ((t1.temp t2).perm fun a ha => mem_swap ha) (.cons (r1.mv t2.left h2.1) (fun a ha hq => r1.off t2 ha (List.mem_append_right _ hq)) r2)
theorem tCB_of {r : List V → Hp → VK → Prop} {g : OA} (hg : OpA X.K r g) : ∀ σ H Q, tE X.K c Ke (wCB g fa) σ H Q → tCB r (tA X.K c Ke fa) σ H Q := by
  rintro σ H Q ⟨S, B, Kp, ok, hf, post⟩
  refine ⟨S, B, _, ok, hf, fun ps S1 vs B1 H1 h1 ok1 t1 r1 => ?_⟩
  exact hg c B1 H1 S1 σ ps vs Kp Q ok1 (ok.tr.trans t1) r1 h1 (post_after t1 post)
end
end SL

set_option Elab.async false
set_option linter.all false
set_option maxRecDepth 100000
set_option maxHeartbeats 4000000
/-! SL3: operators by their rules. -/
namespace SL
open PySem PySem.Spec PyProof.Rows L2

/-! ### flat data -/
def flatD : D → Bool
  | .non => true
  | .bl _ => true
  | .int _ => true
  | .str _ => true
  | .obj _ => true
  | _ => false
theorem flat_any {K : PySem.W.Frag} {B B' : Hp} {d : D} {v : V} (h : flatD d = true) (r : RepD K B d v) : RepD K B' d v := by
  cases d <;> first | (simp [flatD] at h; done) | (unfold RepD at r ⊢; exact r)
def brP (d : D) : P := if flatD d then .sh d else .br d
def brT (d : D) : T := if flatD d then .sh d else .br d
section
variable {K : PySem.W.Frag} {c : Ct} {R B H B' H' : Hp} {S S' : List T} {σ : L2.St} {Kp : KP} {Q : VK} {F : List Addr}
theorem brP_rep {d : D} {v : V} (r : RepD K R d v) : RepP K R B H S (brP d) v := by
  unfold brP
  cases h : flatD d with
  | true => exact (flat_any h r : RepD K B d v)
  | false => exact r
theorem brT_rep {d : D} {v : V} (r : RepD K R d v) : RepT K R B H (brT d) v := by
  unfold brT
  cases h : flatD d with
  | true => simp only [if_true]; unfold RepT; exact flat_any h r
  | false => simp only [Bool.false_eq_true, if_false]; unfold RepT; exact r
theorem footP_brP (d : D) : footP (brP d) = [] := by
  unfold brP; split <;> rfl
theorem foot_brT (d : D) : foot (brT d) = [] := by
  unfold brT; split <;> rfl
/-- a flat result -/
theorem Post.flat (h : Post K c B H S F σ Kp Q) (ok : Ok K c B H S σ) {d : D} {v : V} (f : SL.flat d v) (k : Kp (.sh d) S) : Q v H := h.here ok k (f K B) (fun a ha => by simp [footP] at ha)
end

/-! ### ints -/
def wI (C : Int → Int → Prop) (z : Int → Int → D) : O2 := fun S p q Kp => match pk S p, pk S q with
  | .int i, .int j => C i j ∧ Kp (.sh (z i j)) S
  | _, _ => False
def wI0 (z : Int → Int → D) : O2 := fun S p q Kp => match pk S p, pk S q with
  | .int i, .int j => Kp (.sh (z i j)) S
  | _, _ => False
theorem two_ints {S : List T} {p q : P} {α : Prop} {f : Int → Int → Prop} (h : match pk S p, pk S q with
    | .int i, .int j => f i j
    | _, _ => False) : ∃ i j, pk S p = .int i ∧ pk S q = .int j ∧ f i j := by
  cases h1 : pk S p <;> cases h2 : pk S q <;> rw [h1, h2] at h <;> first | exact ⟨_, _, rfl, rfl, h⟩ | exact h.elim
theorem op2_I {K : PySem.W.Frag} {C : Int → Int → Prop} {g : Int → Int → V} {z : Int → Int → D} (hz : ∀ i j, flat (z i j) (g i j)) : Op2 K (rI C g) (wI C z) := by
  intro c B H S σ p q v w Kp Q ok _ rp rq _ h post
  obtain ⟨i, j, e1, e2, hc, hk⟩ := two_ints (α := True) h
  exact ⟨i, j, pk_int ok.rep rp e1, pk_int ok.rep rq e2, hc, post.flat ok (hz i j) hk⟩
theorem op2_I0 {K : PySem.W.Frag} {g : Int → Int → V} {z : Int → Int → D} (hz : ∀ i j, flat (z i j) (g i j)) : Op2 K (rI0 g) (wI0 z) := by
  intro c B H S σ p q v w Kp Q ok _ rp rq _ h post
  obtain ⟨i, j, e1, e2, hk⟩ := two_ints (α := True) h
  exact ⟨i, j, pk_int ok.rep rp e1, pk_int ok.rep rq e2, post.flat ok (hz i j) hk⟩
abbrev wAdd : O2 := wI0 fun i j => .int (i + j)
abbrev wSub : O2 := wI0 fun i j => .int (i - j)
abbrev wLt : O2 := wI0 fun i j => .bl (decide (i < j))
abbrev wLe : O2 := wI0 fun i j => .bl (decide (i ≤ j))
abbrev wGt : O2 := wI0 fun i j => .bl (decide (j < i))
abbrev wGe : O2 := wI0 fun i j => .bl (decide (j ≤ i))
def MulC (i j : Int) : Prop := CMul i j ∨ CMulW i j
abbrev wMul : O2 := wI MulC fun i j => .int (i * j)
abbrev wDiv : O2 := wI CDivW fun i j => .int (i / j)
abbrev wMod : O2 := wI (fun _ j => 0 < j) fun i j => .int (i % j)
abbrev wPow : O2 := wI CPow fun i j => .int (i ^ j.toNat)
section
variable {X : Cx} {c : Ct} {Ke : KE} {a b e : Expr} {es : List Expr} {f h : WE} {pos : Pos}
theorem i_add (ha : PE X a (tE X.K c Ke f)) (hb : PE X b (tE X.K c Ke h)) : PE X (.BinOp a .Add b pos) (tE X.K c Ke (w2 wAdd f h)) := i_op op_add (op2_I0 fun _ _ => flat_int _) ha hb
theorem i_sub (ha : PE X a (tE X.K c Ke f)) (hb : PE X b (tE X.K c Ke h)) : PE X (.BinOp a .Sub b pos) (tE X.K c Ke (w2 wSub f h)) := i_op op_sub (op2_I0 fun _ _ => flat_int _) ha hb
theorem opMul : OpR X (binaryOp .Mult) (rI MulC fun i j => .int (i * j)) := by
  intro pins s σ H x y v u Q I rx ry q
  obtain ⟨i, j, rfl, rfl, hc, q⟩ := q
  rcases hc with hc | hc
  · exact op_mul pins s σ H _ _ v u Q I rx ry ⟨i, j, rfl, rfl, hc, q⟩
  · exact op_mulW pins s σ H _ _ v u Q I rx ry ⟨i, j, rfl, rfl, hc, q⟩
theorem i_mul (ha : PE X a (tE X.K c Ke f)) (hb : PE X b (tE X.K c Ke h)) : PE X (.BinOp a .Mult b pos) (tE X.K c Ke (w2 wMul f h)) := i_op opMul (op2_I fun _ _ => flat_int _) ha hb
theorem i_div (ha : PE X a (tE X.K c Ke f)) (hb : PE X b (tE X.K c Ke h)) : PE X (.BinOp a .FloorDiv b pos) (tE X.K c Ke (w2 wDiv f h)) := i_op op_fdivW (op2_I fun _ _ => flat_int _) ha hb
theorem i_mod (ha : PE X a (tE X.K c Ke f)) (hb : PE X b (tE X.K c Ke h)) : PE X (.BinOp a .Mod b pos) (tE X.K c Ke (w2 wMod f h)) := i_op op_mod (op2_I fun _ _ => flat_int _) ha hb
theorem i_pow (ha : PE X a (tE X.K c Ke f)) (hb : PE X b (tE X.K c Ke h)) : PE X (.BinOp a .Pow b pos) (tE X.K c Ke (w2 wPow f h)) := i_op op_pow (op2_I fun _ _ => flat_int _) ha hb
def wNeg : O1 := fun S p Kp => match pk S p with
  | .int i => Kp (.sh (.int (-i))) S
  | _ => False
theorem i_neg (ha : PE X a (tE X.K c Ke f)) : PE X (.UnaryOp .USub a pos) (tE X.K c Ke (w1 wNeg f)) := by
  refine i_un un_neg ?_ ha
  intro c B H S σ p v Kp Q ok _ rp h post
  unfold wNeg at h
  cases e : pk S p <;> rw [e] at h <;> first | exact h.elim | skip
  exact ⟨_, pk_int ok.rep rp e, post.flat ok (flat_int _) h⟩
end

/-! ### == and != -/
mutual
def D.py : D → PyData
  | .non => .none
  | .bl b => .bool b
  | .int i => .int i
  | .str x => .str x
  | .lst xs => .list (D.pys xs)
  | .tup xs => .tuple (D.pys xs)
  | _ => .dict []
def D.pys : List D → List PyData
  | [] => []
  | x :: xs => D.py x :: D.pys xs
end
def eqOk : Nat → D → Bool
  | _, .non => true
  | _, .bl _ => true
  | _, .int _ => true
  | _, .str x => PyData.strOk x
  | n + 1, .lst xs => xs.all (eqOk n)
  | n + 1, .tup xs => xs.all (eqOk n)
  | _, _ => false
theorem pys_map : ∀ xs : List D, D.pys xs = xs.map D.py
  | [] => by simp [D.pys]
  | x :: xs => by simp [D.pys, pys_map xs]
def D.eqv (a b : D) : Bool := PyData.eqv a.py b.py
theorem eqOk_can : ∀ (n : Nat) (d : D), eqOk n d = true → d.py.canLay0 = true ∧ d.py.depth ≤ n + 1 := by
  intro n
  induction n with
  | zero =>
    intro d h
    cases d <;> first | (simp [eqOk] at h; done) | (simp [D.py, PyData.canLay0, PyData.depth]; done) | skip
    rename_i x
    simp only [eqOk] at h
    simp [D.py, PyData.canLay0, PyData.depth, h]
  | succ n ih =>
    have all : ∀ xs : List D, xs.all (eqOk n) = true → PyData.canLayAll0 (D.pys xs) = true ∧ PyData.depthAll (D.pys xs) ≤ n + 1 := by
      intro xs
      induction xs with
      | nil => intro _; simp [D.pys, PyData.canLayAll0, PyData.depthAll]
      | cons x xs ihx =>
        intro h
        simp only [List.all_cons, Bool.and_eq_true] at h
        obtain ⟨h1, h2⟩ := ih x h.1
        obtain ⟨h3, h4⟩ := ihx h.2
        simp only [D.pys, PyData.canLayAll0, h1, h3, Bool.and_self, PyData.depthAll, true_and]
        omega
    intro d h
    cases d <;> first | (simp [eqOk] at h; done) | (simp [D.py, PyData.canLay0, PyData.depth]; done) | skip
    · rename_i x
      simp only [eqOk] at h
      simp [D.py, PyData.canLay0, PyData.depth, h]
    · rename_i xs
      obtain ⟨h1, h2⟩ := all xs (by simpa [eqOk] using h)
      simp only [D.py, PyData.canLay0, PyData.depth, h1, true_and]
      omega
    · rename_i xs
      obtain ⟨h1, h2⟩ := all xs (by simpa [eqOk] using h)
      simp only [D.py, PyData.canLay0, PyData.depth, h1, true_and]
      omega
theorem eqOk_shaped {n : Nat} {d : D} (h : eqOk n d = true) (hn : n ≤ 60) : SeqAt.shaped d.py = true := by
  obtain ⟨h1, h2⟩ := eqOk_can n d h
  unfold SeqAt.shaped
  rw [h1, Bool.true_and]
  exact decide_eq_true (by omega)
mutual
theorem dp_of {K : PySem.W.Frag} {H : Hp} : ∀ (n : Nat) (d : D) (v : V), eqOk n d = true → RepD K H d v → Dp K H v d.py
  | _, .non, _, _, h => by unfold RepD at h; subst h; unfold D.py; exact .non
  | _, .bl b, _, _, h => by unfold RepD at h; subst h; unfold D.py; exact .bl b
  | _, .int b, _, _, h => by unfold RepD at h; subst h; unfold D.py; exact .int b
  | _, .str b, _, _, h => by unfold RepD at h; subst h; unfold D.py; exact .str b
  | 0, .lst xs, _, e, _ => by simp [eqOk] at e
  | 0, .tup xs, _, e, _ => by simp [eqOk] at e
  | n + 1, .lst xs, _, e, h => by
    unfold RepD at h; unfold D.py
    obtain ⟨a, ws, rfl, h1, h2⟩ := h
    exact .lst (SqL.of h1) (dpAll_of n xs ws (by simpa [eqOk] using e) h2)
  | n + 1, .tup xs, _, e, h => by
    unfold RepD at h; unfold D.py
    obtain ⟨a, ws, rfl, h1, h2⟩ := h
    exact .tup h1 (dpAll_of n xs ws (by simpa [eqOk] using e) h2)
  | n, .bad, _, e, _ => by cases n <;> simp [eqOk] at e
  | n, .obj _, _, e, _ => by cases n <;> simp [eqOk] at e
  | n, .ins _ _ _, _, e, _ => by cases n <;> simp [eqOk] at e
  | n, .sq _, _, e, _ => by cases n <;> simp [eqOk] at e
  | n, .exc _ _ _, _, e, _ => by cases n <;> simp [eqOk] at e
theorem dpAll_of {K : PySem.W.Frag} {H : Hp} : ∀ (n : Nat) (xs : List D) (ws : List V), xs.all (eqOk n) = true → RepDs K H xs ws → DpAll K H ws (D.pys xs)
  | _, [], _, _, h => by unfold RepDs at h; subst h; unfold D.pys; exact .nil
  | n, x :: xs, _, e, h => by
    unfold RepDs at h; unfold D.pys
    obtain ⟨w, r, rfl, h1, h2⟩ := h
    simp only [List.all_cons, Bool.and_eq_true] at e
    exact .cons (dp_of n x w e.1 h1) (dpAll_of n xs r e.2 h2)
end
def wEq : O2 := fun S p q Kp => eqOk 40 (pk S p) = true ∧ eqOk 40 (pk S q) = true ∧ Kp (.sh (.bl ((pk S p).eqv (pk S q)))) S
def wNe : O2 := fun S p q Kp => eqOk 40 (pk S p) = true ∧ eqOk 40 (pk S q) = true ∧ Kp (.sh (.bl (!(pk S p).eqv (pk S q)))) S
theorem op2_eq {K : PySem.W.Frag} : Op2 K (rEqD K) wEq := by
  intro c B H S σ p q v w Kp Q ok _ rp rq _ h post
  obtain ⟨h1, h2, hk⟩ := h
  exact ⟨_, _, dp_of _ _ _ h1 (ok.rep.pk rp), dp_of _ _ _ h2 (ok.rep.pk rq), eqOk_shaped h1 (by decide), eqOk_shaped h2 (by decide), post.flat ok (flat_bl _) hk⟩
theorem op2_ne {K : PySem.W.Frag} : Op2 K (rNeD K) wNe := by
  intro c B H S σ p q v w Kp Q ok _ rp rq _ h post
  obtain ⟨h1, h2, hk⟩ := h
  exact ⟨_, _, dp_of _ _ _ h1 (ok.rep.pk rp), dp_of _ _ _ h2 (ok.rep.pk rq), eqOk_shaped h1 (by decide), eqOk_shaped h2 (by decide), post.flat ok (flat_bl _) hk⟩

/-! ### in, not in -/
def nrm : D → Bool
  | .non => true
  | .bl _ => true
  | .int _ => true
  | .str _ => true
  | _ => false
def D.fe : D → D → Bool
  | .non, .non => true
  | .bl a, .bl b => a == b
  | .bl a, .int b => (if a then 1 else 0) == b
  | .int a, .bl b => a == (if b then 1 else 0)
  | .int a, .int b => a == b
  | .str a, .str b => a == b
  | _, _ => false
def inD (d : D) (ds : List D) : Bool := ds.any fun y => y.fe d
theorem fe_eqV {K : PySem.W.Frag} {B B' : Hp} {a b : D} {v w : V} (ha : nrm a = true) (hb : nrm b = true) (ra : RepD K B a v) (rb : RepD K B' b w) : eqV v w = a.fe b ∧ flatV v = true ∧ flatV w = true := by
  cases a <;> first | (simp [nrm] at ha; done) | skip
  all_goals (cases b <;> first | (simp [nrm] at hb; done) | skip)
  all_goals (unfold RepD at ra rb; subst ra rb; exact ⟨rfl, rfl, rfl⟩)
theorem inD_inV {K : PySem.W.Frag} {B B' : Hp} {d : D} {v : V} (hd : nrm d = true) (r : RepD K B' d v) : ∀ {ds : List D} {ws : List V}, ds.all nrm = true → RepDs K B ds ws → inV v ws = inD d ds ∧ ws.all flatV = true
  | [], _, _, h => by unfold RepDs at h; subst h; exact ⟨rfl, rfl⟩
  | x :: ds, _, e, h => by
    unfold RepDs at h
    obtain ⟨w, r', rfl, h1, h2⟩ := h
    simp only [List.all_cons, Bool.and_eq_true] at e
    obtain ⟨e1, e2, _⟩ := fe_eqV e.1 hd h1 r
    obtain ⟨e3, e4⟩ := inD_inV hd r e.2 h2
    refine ⟨?_, by simp [e2, e4]⟩
    unfold inV inD at e3 ⊢
    simp only [List.any_cons, e1, e3]
def wIn (neg : Bool) : O2 := fun S p q Kp => nrm (pk S p) = true ∧ match pk S q with
  | .lst ds => ds.all nrm = true ∧ Kp (.sh (.bl (if neg then !inD (pk S p) ds else inD (pk S p) ds))) S
  | .tup ds => ds.all nrm = true ∧ Kp (.sh (.bl (if neg then !inD (pk S p) ds else inD (pk S p) ds))) S
  | _ => False
theorem op2_in {K : PySem.W.Frag} {neg : Bool} : Op2 K (rIn K neg) (wIn neg) := by
  intro c B H S σ p q v w Kp Q ok _ rp rq _ h post
  obtain ⟨h1, h⟩ := h
  have rd := ok.rep.pk rp
  cases e : pk S q <;> rw [e] at h <;> first | exact h.elim | skip
  · obtain ⟨h2, hk⟩ := h
    obtain ⟨a, ws, rfl, h3, h4⟩ := pk_lst ok.rep rq e
    obtain ⟨e1, e2⟩ := inD_inV h1 rd h2 h4
    refine ⟨a, ws, rfl, .inl (SqL.of h3), ?_, e2, ?_⟩
    · exact (fe_eqV h1 h1 rd rd).2.1
    · rw [e1]; exact post.flat ok (flat_bl _) hk
  · obtain ⟨h2, hk⟩ := h
    obtain ⟨a, ws, rfl, h3, h4⟩ := pk_tup ok.rep rq e
    obtain ⟨e1, e2⟩ := inD_inV h1 rd h2 h4
    refine ⟨a, ws, rfl, .inr h3, ?_, e2, ?_⟩
    · exact (fe_eqV h1 h1 rd rd).2.1
    · rw [e1]; exact post.flat ok (flat_bl _) hk
def isNon : D → Bool
  | .non => true
  | _ => false
def notBad : D → Bool
  | .bad => false
  | _ => true
def wIsN (neg : Bool) : O1 := fun S p Kp => notBad (pk S p) = true ∧ Kp (.sh (.bl (if neg then !isNon (pk S p) else isNon (pk S p)))) S
theorem non_iff {K : PySem.W.Frag} {H : Hp} {d : D} {v : V} (h : notBad d = true) (r : RepD K H d v) : decide (v = .non) = isNon d := by
  cases d <;> first | (simp [notBad] at h; done) | skip
  all_goals (unfold RepD at r)
  all_goals first | (subst r; rfl) | (obtain ⟨a, ws, rfl, _⟩ := r; rfl) | (obtain ⟨a, dx, ws, rfl, _⟩ := r; rfl)
section
variable {X : Cx} {c : Ct} {Ke : KE} {a b e : Expr} {es : List Expr} {f h : WE} {pos : Pos}
theorem i_eq (hu : X.A.units + 64 < cLine) (ha : PE X a (tE X.K c Ke f)) (hb : PE X b (tE X.K c Ke h)) : PE X (.Compare a [.Eq] [b] pos) (tE X.K c Ke (w2 wEq f h)) := i_cmp (op_eqD hu) op2_eq ha hb
theorem i_ne (hu : X.A.units + 64 < cLine) (ha : PE X a (tE X.K c Ke f)) (hb : PE X b (tE X.K c Ke h)) : PE X (.Compare a [.NotEq] [b] pos) (tE X.K c Ke (w2 wNe f h)) := i_cmp (op_neD hu) op2_ne ha hb
theorem i_lt (ha : PE X a (tE X.K c Ke f)) (hb : PE X b (tE X.K c Ke h)) : PE X (.Compare a [.Lt] [b] pos) (tE X.K c Ke (w2 wLt f h)) := i_cmp op_lt (op2_I0 fun _ _ => flat_bl _) ha hb
theorem i_le (ha : PE X a (tE X.K c Ke f)) (hb : PE X b (tE X.K c Ke h)) : PE X (.Compare a [.LtE] [b] pos) (tE X.K c Ke (w2 wLe f h)) := i_cmp op_le (op2_I0 fun _ _ => flat_bl _) ha hb
theorem i_gt (ha : PE X a (tE X.K c Ke f)) (hb : PE X b (tE X.K c Ke h)) : PE X (.Compare a [.Gt] [b] pos) (tE X.K c Ke (w2 wGt f h)) := i_cmp op_gt (op2_I0 fun _ _ => flat_bl _) ha hb
theorem i_ge (ha : PE X a (tE X.K c Ke f)) (hb : PE X b (tE X.K c Ke h)) : PE X (.Compare a [.GtE] [b] pos) (tE X.K c Ke (w2 wGe f h)) := i_cmp op_ge (op2_I0 fun _ _ => flat_bl _) ha hb
theorem i_in (ha : PE X a (tE X.K c Ke f)) (hb : PE X b (tE X.K c Ke h)) (hm : behindInMarks .In b = false := by rfl) : PE X (.Compare a [.In] [b] pos) (tE X.K c Ke (w2 (wIn false) f h)) := i_cmp op_in_seq op2_in ha hb hm
theorem i_notin (ha : PE X a (tE X.K c Ke f)) (hb : PE X b (tE X.K c Ke h)) (hm : behindInMarks .NotIn b = false := by rfl) : PE X (.Compare a [.NotIn] [b] pos) (tE X.K c Ke (w2 (wIn true) f h)) := i_cmp op_notIn_seq op2_in ha hb hm
theorem i_isN {j pos'} (ha : PE X a (tE X.K c Ke f)) : PE X (.Compare a [.Is] [.Constant .none j pos'] pos) (tE X.K c Ke (w1 (wIsN false) f)) := by
  refine wkE (pe_cmp (pc_isN ha) rfl) ?_
  rintro σ H Q ⟨S, B, Kp, ok, hf, post⟩
  refine ⟨S, B, _, ok, hf, fun p S1 v B1 H1 h1 ok1 t1 r1 => ?_⟩
  dsimp only
  rw [non_iff h1.1 (ok1.rep.pk r1)]
  exact (post_after t1.nil post).flat ok1 (flat_bl _) h1.2
theorem i_notN {j pos'} (ha : PE X a (tE X.K c Ke f)) : PE X (.Compare a [.IsNot] [.Constant .none j pos'] pos) (tE X.K c Ke (w1 (wIsN true) f)) := by
  refine wkE (pe_cmp (pc_notN ha) rfl) ?_
  rintro σ H Q ⟨S, B, Kp, ok, hf, post⟩
  refine ⟨S, B, _, ok, hf, fun p S1 v B1 H1 h1 ok1 t1 r1 => ?_⟩
  dsimp only
  rw [non_iff h1.1 (ok1.rep.pk r1)]
  exact (post_after t1.nil post).flat ok1 (flat_bl _) h1.2

/-! ### tests -/
def wTB (f : WE) : WT := fun S Kb Ke => f S (fun p S1 => match pk S1 p with
  | .bl b => Kb b S1
  | _ => False) Ke
def D.truth : D → Option Bool
  | .non => some false
  | .bl b => some b
  | .int i => some (i != 0)
  | .str x => if x.length ≤ 1000000 then some ((x.length : Int) != 0) else none
  | .lst xs => some (!xs.isEmpty)
  | .tup xs => some (!xs.isEmpty)
  | _ => none
def wTru (f : WE) : WT := fun S Kb Ke => f S (fun p S1 => match (pk S1 p).truth with
  | some b => Kb b S1
  | none => False) Ke
theorem empty_ds {K : PySem.W.Frag} {H : Hp} {ds : List D} {ws : List V} (h : RepDs K H ds ws) : ws.isEmpty = ds.isEmpty := by
  cases ds with
  | nil => unfold RepDs at h; subst h; rfl
  | cons x xs => unfold RepDs at h; obtain ⟨w, r, rfl, _⟩ := h; rfl
theorem truth_V {K : PySem.W.Frag} {H : Hp} {d : D} {v : V} {b : Bool} (h : d.truth = some b) (r : RepD K H d v) : TruV K v H b := by
  cases d <;> first | (simp [D.truth] at h; done) | skip
  · unfold RepD at r; subst r; exact (Option.some.inj h).symm
  · unfold RepD at r; subst r; exact (Option.some.inj h).symm
  · unfold RepD at r; subst r; exact (Option.some.inj h).symm
  · rename_i x
    unfold RepD at r; subst r
    simp only [D.truth] at h
    split at h
    · rename_i hl
      exact ⟨Nat.le_trans hl (by decide), (Option.some.inj h).symm⟩
    · cases h
  · unfold RepD at r; obtain ⟨a, ws, rfl, h1, h2⟩ := r
    refine .inl ⟨ws, SqL.of h1, ?_⟩
    rw [empty_ds h2]
    exact (Option.some.inj h).symm
  · unfold RepD at r; obtain ⟨a, ws, rfl, h1, h2⟩ := r
    refine .inr (.inl ⟨ws, h1, ?_⟩)
    rw [empty_ds h2]
    exact (Option.some.inj h).symm
theorem tB_of (h : PE X e (tE X.K c Ke f)) : ∀ σ H (Q : Bool → Hp → Prop), tT X.K c Ke (wTB f) σ H Q → tE X.K c Ke f σ H fun x H' => ∃ k, x = .bl k ∧ Q k H' := by
  rintro σ H Q ⟨S, B, Kb, ok, hf, post⟩
  refine ⟨S, B, _, ok, hf, fun p S1 v B1 H1 h1 ok1 t1 r1 => ?_⟩
  cases e : pk S1 p <;> simp only [e] at h1 <;> first | exact h1.elim | skip
  exact ⟨_, pk_bl ok1.rep r1 e, post _ S1 B1 H1 h1 ok1 t1.nil.left⟩
/-- an expression whose value is a bool, as a test -/
theorem i_tb (h : PE X e (tE X.K c Ke f)) (he : ∀ whole, isTrue e X.env whole = (do let v ← whole; standAt e.pos; holding [v] (truthy v)) := by intro _; rfl) : PT X e (tT X.K c Ke (wTB f)) :=
  wkT (pt_val h he) (tB_of h)
theorem i_tru (h : PE X e (tE X.K c Ke f)) (he : ∀ whole, isTrue e X.env whole = (do let v ← whole; standAt e.pos; holding [v] (truthy v)) := by intro _; rfl) : PT X e (tT X.K c Ke (wTru f)) := by
  refine wkT (pt_truth h he) ?_
  rintro σ H Q ⟨S, B, Kb, ok, hf, post⟩
  refine ⟨S, B, _, ok, hf, fun p S1 v B1 H1 h1 ok1 t1 r1 => ?_⟩
  cases e : (pk S1 p).truth <;> simp only [e] at h1
  exact ⟨_, truth_V e (ok1.rep.pk r1), post _ S1 B1 H1 h1 ok1 t1.nil.left⟩
/-- a comparison as a test -/
theorem i_tcmp {op : CmpOp} {r : R2} {g : O2} (ho : OpR X (compareOp op) r) (hg : Op2 X.K r g) (ha : PE X a (tE X.K c Ke f)) (hb : PE X b (tE X.K c Ke h)) (hm : behindInMarks op b = false := by first | exact nomark _ | rfl) : PT X (.Compare a [op] [b] pos) (tT X.K c Ke (wTB (w2 g f h))) :=
  wkT (pt_cmpR ho ha hb hm) fun σ H Q q => tOp_of hg σ H _ (tB_of (i_cmp (pos := pos) ho hg ha hb hm) σ H Q q)
theorem i_teq (hu : X.A.units + 64 < cLine) (ha : PE X a (tE X.K c Ke f)) (hb : PE X b (tE X.K c Ke h)) : PT X (.Compare a [.Eq] [b] pos) (tT X.K c Ke (wTB (w2 wEq f h))) := i_tcmp (op_eqD hu) op2_eq ha hb
theorem i_tne (hu : X.A.units + 64 < cLine) (ha : PE X a (tE X.K c Ke f)) (hb : PE X b (tE X.K c Ke h)) : PT X (.Compare a [.NotEq] [b] pos) (tT X.K c Ke (wTB (w2 wNe f h))) := i_tcmp (op_neD hu) op2_ne ha hb
theorem i_tlt (ha : PE X a (tE X.K c Ke f)) (hb : PE X b (tE X.K c Ke h)) : PT X (.Compare a [.Lt] [b] pos) (tT X.K c Ke (wTB (w2 wLt f h))) := i_tcmp op_lt (op2_I0 fun _ _ => flat_bl _) ha hb
theorem i_tle (ha : PE X a (tE X.K c Ke f)) (hb : PE X b (tE X.K c Ke h)) : PT X (.Compare a [.LtE] [b] pos) (tT X.K c Ke (wTB (w2 wLe f h))) := i_tcmp op_le (op2_I0 fun _ _ => flat_bl _) ha hb
theorem i_tgt (ha : PE X a (tE X.K c Ke f)) (hb : PE X b (tE X.K c Ke h)) : PT X (.Compare a [.Gt] [b] pos) (tT X.K c Ke (wTB (w2 wGt f h))) := i_tcmp op_gt (op2_I0 fun _ _ => flat_bl _) ha hb
theorem i_tge (ha : PE X a (tE X.K c Ke f)) (hb : PE X b (tE X.K c Ke h)) : PT X (.Compare a [.GtE] [b] pos) (tT X.K c Ke (wTB (w2 wGe f h))) := i_tcmp op_ge (op2_I0 fun _ _ => flat_bl _) ha hb
theorem i_tin (ha : PE X a (tE X.K c Ke f)) (hb : PE X b (tE X.K c Ke h)) (hm : behindInMarks .In b = false := by rfl) : PT X (.Compare a [.In] [b] pos) (tT X.K c Ke (wTB (w2 (wIn false) f h))) := i_tcmp op_in_seq op2_in ha hb hm
theorem i_tnotin (ha : PE X a (tE X.K c Ke f)) (hb : PE X b (tE X.K c Ke h)) (hm : behindInMarks .NotIn b = false := by rfl) : PT X (.Compare a [.NotIn] [b] pos) (tT X.K c Ke (wTB (w2 (wIn true) f h))) := i_tcmp op_notIn_seq op2_in ha hb hm
theorem i_tisN {j pos'} (ha : PE X a (tE X.K c Ke f)) : PT X (.Compare a [.Is] [.Constant .none j pos'] pos) (tT X.K c Ke (wTB (w1 (wIsN false) f))) := by
  refine wkT (pt_cmp (pc_isN ha) rfl) fun σ H Q q => ?_
  obtain ⟨S, B, Kp, ok, hf, post⟩ := q
  refine ⟨S, B, _, ok, hf, fun p S1 v B1 H1 h1 ok1 t1 r1 => ?_⟩
  dsimp only
  rw [non_iff h1.1 (ok1.rep.pk r1)]
  exact ⟨_, rfl, post _ S1 B1 H1 h1.2 ok1 t1.nil.left⟩
theorem i_tnotN {j pos'} (ha : PE X a (tE X.K c Ke f)) : PT X (.Compare a [.IsNot] [.Constant .none j pos'] pos) (tT X.K c Ke (wTB (w1 (wIsN true) f))) := by
  refine wkT (pt_cmp (pc_notN ha) rfl) fun σ H Q q => ?_
  obtain ⟨S, B, Kp, ok, hf, post⟩ := q
  refine ⟨S, B, _, ok, hf, fun p S1 v B1 H1 h1 ok1 t1 r1 => ?_⟩
  dsimp only
  rw [non_iff h1.1 (ok1.rep.pk r1)]
  exact ⟨_, rfl, post _ S1 B1 H1 h1.2 ok1 t1.nil.left⟩
def wAnd (f g : WT) : WT := fun S Kb Ke => f S (fun b S1 => if b = true then g S1 Kb Ke else Kb false S1) Ke
def wOr (f g : WT) : WT := fun S Kb Ke => f S (fun b S1 => if b = true then Kb true S1 else g S1 Kb Ke) Ke
def wNot (f : WT) : WT := fun S Kb Ke => f S (fun b S1 => Kb (!b) S1) Ke
variable {f' g' : WT} {rest : List Expr}
theorem i_and1 (ha : PT X a (tT X.K c Ke f')) : PW X (.BoolOp .And [a] pos) (tT X.K c Ke f') := pw_and1 ha
theorem i_or1 (ha : PT X a (tT X.K c Ke f')) : PW X (.BoolOp .Or [a] pos) (tT X.K c Ke f') := pw_or1 ha
theorem i_and (ha : PT X a (tT X.K c Ke f')) (hb : PW X (.BoolOp .And (b :: rest) pos) (tT X.K c Ke g')) : PW X (.BoolOp .And (a :: b :: rest) pos) (tT X.K c Ke (wAnd f' g')) := by
  refine wkW (pw_and ha hb) ?_
  rintro σ H Q ⟨S, B, Kb, ok, hf, post⟩
  refine ⟨S, B, _, ok, hf, fun b S1 B1 H1 h1 ok1 t1 => ?_⟩
  cases b with
  | true => exact ⟨S1, B1, Kb, ok1, h1, fun b S2 B2 H2 h2 ok2 t2 => post b S2 B2 H2 h2 ok2 (t1.trans t2)⟩
  | false => exact post false S1 B1 H1 h1 ok1 t1
theorem i_or (ha : PT X a (tT X.K c Ke f')) (hb : PW X (.BoolOp .Or (b :: rest) pos) (tT X.K c Ke g')) : PW X (.BoolOp .Or (a :: b :: rest) pos) (tT X.K c Ke (wOr f' g')) := by
  refine wkW (pw_or ha hb) ?_
  rintro σ H Q ⟨S, B, Kb, ok, hf, post⟩
  refine ⟨S, B, _, ok, hf, fun b S1 B1 H1 h1 ok1 t1 => ?_⟩
  cases b with
  | false => exact ⟨S1, B1, Kb, ok1, h1, fun b S2 B2 H2 h2 ok2 t2 => post b S2 B2 H2 h2 ok2 (t1.trans t2)⟩
  | true => exact post true S1 B1 H1 h1 ok1 t1
theorem i_not (ha : PT X a (tT X.K c Ke f')) : PT X (.UnaryOp .Not a pos) (tT X.K c Ke (wNot f')) := by
  refine wkT (pt_not ha) ?_
  rintro σ H Q ⟨S, B, Kb, ok, hf, post⟩
  exact ⟨S, B, _, ok, hf, fun b S1 B1 H1 h1 ok1 t1 => post (!b) S1 B1 H1 h1 ok1 t1⟩
/-- a test's answer as a value: and, or, not of bools -/
def wBV (f : WT) : WE := fun S Kp Ke => f S (fun b S1 => Kp (.sh (.bl b)) S1) Ke
def wAndV (f g : WE) : WE := fun S Kp Ke => f S (fun p S1 => match pk S1 p with
  | .bl true => g S1 Kp Ke
  | .bl false => Kp (.sh (.bl false)) S1
  | _ => False) Ke
def wOrV (f g : WE) : WE := fun S Kp Ke => f S (fun p S1 => match pk S1 p with
  | .bl false => g S1 Kp Ke
  | .bl true => Kp (.sh (.bl true)) S1
  | _ => False) Ke
def wNotV (f : WE) : WE := fun S Kp Ke => f S (fun p S1 => match pk S1 p with
  | .bl b => Kp (.sh (.bl (!b))) S1
  | _ => False) Ke
theorem i_one {op} (ha : PE X a (tE X.K c Ke f)) : PE X (.BoolOp op [a] pos) (tE X.K c Ke f) := pe_one ha
theorem post_chain {K : PySem.W.Frag} {B H B1 H1 : Hp} {S S1 : List T} {G : List Addr} {σ : L2.St} {Kp : KP} {Q : VK} (t : Tr B H (feet S) B1 H1 (feet S1 ++ G)) (p : Post K c B H S [] σ Kp Q) : Post K c B1 H1 S1 [] σ Kp Q :=
  post_after (F := []) t.left.nil' p
theorem i_andV (ha : PE X a (tE X.K c Ke f)) (hb : PE X (.BoolOp .And (b :: rest) pos) (tE X.K c Ke h)) : PE X (.BoolOp .And (a :: b :: rest) pos) (tE X.K c Ke (wAndV f h)) := by
  refine wkE (pe_and ha hb) ?_
  rintro σ H Q ⟨S, B, Kp, ok, hf, post⟩
  refine ⟨S, B, _, ok, hf, fun p S1 v B1 H1 h1 ok1 t1 r1 => ?_⟩
  cases e : pk S1 p <;> simp only [e] at h1 <;> first | exact h1.elim | skip
  rename_i k
  refine ⟨k, pk_bl ok1.rep r1 e, ?_⟩
  cases k with
  | true => exact ⟨S1, B1, Kp, ok1, h1, post_chain t1.nil post⟩
  | false => exact (post_chain t1.nil post).flat ok1 (flat_bl _) h1
theorem i_orV (ha : PE X a (tE X.K c Ke f)) (hb : PE X (.BoolOp .Or (b :: rest) pos) (tE X.K c Ke h)) : PE X (.BoolOp .Or (a :: b :: rest) pos) (tE X.K c Ke (wOrV f h)) := by
  refine wkE (pe_or ha hb) ?_
  rintro σ H Q ⟨S, B, Kp, ok, hf, post⟩
  refine ⟨S, B, _, ok, hf, fun p S1 v B1 H1 h1 ok1 t1 r1 => ?_⟩
  cases e : pk S1 p <;> simp only [e] at h1 <;> first | exact h1.elim | skip
  rename_i k
  refine ⟨k, pk_bl ok1.rep r1 e, ?_⟩
  cases k with
  | false => exact ⟨S1, B1, Kp, ok1, h1, post_chain t1.nil post⟩
  | true => exact (post_chain t1.nil post).flat ok1 (flat_bl _) h1
theorem i_notV (ha : PE X a (tE X.K c Ke f)) : PE X (.UnaryOp .Not a pos) (tE X.K c Ke (wNotV f)) := by
  refine wkE (pe_not ha) ?_
  rintro σ H Q ⟨S, B, Kp, ok, hf, post⟩
  refine ⟨S, B, _, ok, hf, fun p S1 v B1 H1 h1 ok1 t1 r1 => ?_⟩
  cases e : pk S1 p <;> simp only [e] at h1 <;> first | exact h1.elim | skip
  exact ⟨_, pk_bl ok1.rep r1 e, (post_chain t1.nil post).flat ok1 (flat_bl _) h1⟩
def wIfE (t : WT) (f g : WE) : WE := fun S Kp Ke => t S (fun b S1 => if b = true then f S1 Kp Ke else g S1 Kp Ke) Ke
theorem i_ife {d : Expr} (hc : PT X d (tT X.K c Ke f')) (ha : PE X a (tE X.K c Ke f)) (hb : PE X b (tE X.K c Ke h)) : PE X (.IfExp d a b pos) (tE X.K c Ke (wIfE f' f h)) := by
  refine wkE (pe_ifExp hc ha hb) ?_
  rintro σ H Q ⟨S, B, Kp, ok, hf, post⟩
  refine ⟨S, B, _, ok, hf, fun b S1 B1 H1 h1 ok1 t1 => ?_⟩
  have p2 : Post X.K c B1 H1 S1 [] σ Kp Q := post_after (F := []) t1.nil' post
  cases b with
  | true => exact ⟨S1, B1, Kp, ok1, h1, p2⟩
  | false => exact ⟨S1, B1, Kp, ok1, h1, p2⟩
/-- a < b < c, of ints -/
def wChain (C : Int → Int → Bool) (C' : Int → Int → Bool) (f h k : WE) : WE := fun S Kp Ke => f S (fun p S1 => h S1 (fun q S2 => okAt p S1 S2 ∧ match pk S2 p, pk S2 q with
  | .int i, .int j => if C i j = true then k S2 (fun r S3 => match pk S3 r with
    | .int l => Kp (.sh (.bl (C' j l))) S3
    | _ => False) Ke else Kp (.sh (.bl false)) S2
  | _, _ => False) Ke) Ke
theorem tChain_of {C C' : Int → Int → Bool} {k : WE} : ∀ σ H Q, tE X.K c Ke (wChain C C' f h k) σ H Q → tChain (rI0 fun i j => .bl (C i j)) (rI0 fun i j => .bl (C' i j)) (tE X.K c Ke f) (tE X.K c Ke h) (tE X.K c Ke k) σ H Q := by
  rintro σ H Q ⟨S, B, Kp, ok, hf, post⟩
  refine ⟨S, B, _, ok, hf, fun p S1 v B1 H1 h1 ok1 t1 r1 => ?_⟩
  refine ⟨S1, B1, _, ok1, h1, fun q S2 w B2 H2 h2 ok2 t2 r2 => ?_⟩
  obtain ⟨ha, h2⟩ := h2
  obtain ⟨i, j, e1, e2, h2⟩ := two_ints (α := True) h2
  have t1 := t1.nil
  have t2 := t2.nil
  refine ⟨i, j, pk_int ok2.rep (r1.mv t2.left ha) e1, pk_int ok2.rep r2 e2, C i j, rfl, ?_⟩
  have p2 : Post X.K c B2 H2 S2 [] σ Kp Q := post_chain t2 (post_chain t1 post)
  cases e : C i j with
  | true =>
    rw [e] at h2
    simp only [if_true] at h2 ⊢
    refine ⟨S2, B2, _, ok2, h2, fun r S3 u B3 H3 h3 ok3 t3 r3 => ?_⟩
    cases e3 : pk S3 r <;> rw [e3] at h3 <;> first | exact h3.elim | skip
    exact ⟨j, _, pk_int ok2.rep r2 e2, pk_int ok3.rep r3 e3, (post_chain t3.nil p2).flat ok3 (flat_bl _) h3⟩
  | false =>
    rw [e] at h2
    simp only [Bool.false_eq_true, if_false] at h2 ⊢
    exact p2.flat ok2 (flat_bl _) h2
abbrev cLt : Int → Int → Bool := fun i j => decide (i < j)
abbrev cLe : Int → Int → Bool := fun i j => decide (i ≤ j)
variable {d : Expr} {k : WE}
theorem i_chLL (ha : PE X a (tE X.K c Ke f)) (hb : PE X b (tE X.K c Ke h)) (hd : PE X d (tE X.K c Ke k)) (hm : lastMarks [.LtE, .LtE] [b, d] = false := by with_unfolding_all rfl) : PE X (.Compare a [.LtE, .LtE] [b, d] pos) (tE X.K c Ke (wChain cLe cLe f h k)) :=
  wkE (pe_chain op_le op_le ha hb hd hm) tChain_of
theorem i_chLl (ha : PE X a (tE X.K c Ke f)) (hb : PE X b (tE X.K c Ke h)) (hd : PE X d (tE X.K c Ke k)) (hm : lastMarks [.LtE, .Lt] [b, d] = false := by with_unfolding_all rfl) : PE X (.Compare a [.LtE, .Lt] [b, d] pos) (tE X.K c Ke (wChain cLe cLt f h k)) :=
  wkE (pe_chain op_le op_lt ha hb hd hm) tChain_of
theorem i_chlL (ha : PE X a (tE X.K c Ke f)) (hb : PE X b (tE X.K c Ke h)) (hd : PE X d (tE X.K c Ke k)) (hm : lastMarks [.Lt, .LtE] [b, d] = false := by with_unfolding_all rfl) : PE X (.Compare a [.Lt, .LtE] [b, d] pos) (tE X.K c Ke (wChain cLt cLe f h k)) :=
  wkE (pe_chain op_lt op_le ha hb hd hm) tChain_of
theorem i_tch {op op' : CmpOp} {C C' : Int → Int → Bool} (ho : OpR X (compareOp op) (rI0 fun i j => .bl (C i j))) (ho' : OpR X (compareOp op') (rI0 fun i j => .bl (C' i j))) (ha : PE X a (tE X.K c Ke f)) (hb : PE X b (tE X.K c Ke h)) (hd : PE X d (tE X.K c Ke k))
    (hm : lastMarks [op, op'] [b, d] = false) : PT X (.Compare a [op, op'] [b, d] pos) (tT X.K c Ke (wTB (wChain C C' f h k))) := by
  refine wkT (pt_chain ho ho' ha hb hd hm) fun σ H Q q => ?_
  exact tChain_of σ H _ (tB_of (wkE (pe_chain (pos := pos) ho ho' ha hb hd hm) tChain_of) σ H Q q)
theorem i_tchLL (ha : PE X a (tE X.K c Ke f)) (hb : PE X b (tE X.K c Ke h)) (hd : PE X d (tE X.K c Ke k)) (hm : lastMarks [.LtE, .LtE] [b, d] = false := by with_unfolding_all rfl) : PT X (.Compare a [.LtE, .LtE] [b, d] pos) (tT X.K c Ke (wTB (wChain cLe cLe f h k))) := i_tch op_le op_le ha hb hd hm
theorem i_tchLl (ha : PE X a (tE X.K c Ke f)) (hb : PE X b (tE X.K c Ke h)) (hd : PE X d (tE X.K c Ke k)) (hm : lastMarks [.LtE, .Lt] [b, d] = false := by with_unfolding_all rfl) : PT X (.Compare a [.LtE, .Lt] [b, d] pos) (tT X.K c Ke (wTB (wChain cLe cLt f h k))) := i_tch op_le op_lt ha hb hd hm
theorem i_tchlL (ha : PE X a (tE X.K c Ke f)) (hb : PE X b (tE X.K c Ke h)) (hd : PE X d (tE X.K c Ke k)) (hm : lastMarks [.Lt, .LtE] [b, d] = false := by with_unfolding_all rfl) : PT X (.Compare a [.Lt, .LtE] [b, d] pos) (tT X.K c Ke (wTB (wChain cLt cLe f h k))) := i_tch op_lt op_le ha hb hd hm
end
end SL

set_option Elab.async false
set_option linter.all false
set_option maxRecDepth 100000
set_option maxHeartbeats 4000000
/-! SL4: places that change; sharing. -/
namespace SL
open PySem PySem.Spec PyProof.Rows L2

def optK {α : Type} (o : Option α) (k : α → Prop) : Prop := match o with
  | some x => k x
  | none => False
theorem optK_some {α : Type} {o : Option α} {k : α → Prop} (h : optK o k) : ∃ x, o = some x ∧ k x := by
  cases o with
  | none => exact h.elim
  | some x => exact ⟨x, rfl, h⟩

/-! ### the node at a place, put -/
def T.put : T → List Nat → T → Option T
  | _, [], u => some u
  | .lst a ts, k :: p, u => (ts[k]?).bind fun t => (t.put p u).map fun t' => .lst a (ts.set k t')
  | .ins a C ns ts, k :: p, u => (ts[k]?).bind fun t => (t.put p u).map fun t' => .ins a C ns (ts.set k t')
  | _, _ :: _, _ => none
def putN (S : List T) (i : Nat) (p : List Nat) (u : T) : Option (List T) := (S[i]?).bind fun t => (t.put p u).map fun t' => S.set i t'
theorem T.at_append : ∀ (p q : List Nat) (t u : T), t.at p = some u → t.at (p ++ q) = u.at q
  | [], q, t, u, h => by
    have e : t = u := by simpa [T.at] using h
    subst e; rfl
  | k :: p, q, .lst a ts, u, h => by
    simp only [T.at, List.cons_append] at h ⊢
    cases e : ts[k]? with
    | none => rw [e] at h; cases h
    | some t' => rw [e] at h; exact T.at_append p q t' u h
  | k :: p, q, .ins a C ns ts, u, h => by
    simp only [T.at, List.cons_append] at h ⊢
    cases e : ts[k]? with
    | none => rw [e] at h; cases h
    | some t' => rw [e] at h; exact T.at_append p q t' u h
  | k :: p, q, .un, u, h => by simp [T.at] at h
  | k :: p, q, .sh _, u, h => by simp [T.at] at h
  | k :: p, q, .br _, u, h => by simp [T.at] at h
  | k :: p, q, .dT _ _, u, h => by simp [T.at] at h
theorem node_append {S : List T} {i : Nat} {p q : List Nat} {t : T} (h : node S i p = some t) : node S i (p ++ q) = t.at q := by
  unfold node at h ⊢
  cases e : S[i]? with
  | none => rw [e] at h; cases h
  | some u => rw [e] at h; exact T.at_append p q u t h
theorem at_feet : ∀ (p : List Nat) (t u : T), t.at p = some u → ∀ a ∈ foot u, a ∈ foot t
  | [], t, u, h, a, ha => by
    have e : t = u := by simpa [T.at] using h
    subst e; exact ha
  | k :: p, .lst b ts, u, h, a, ha => by
    simp only [T.at] at h
    cases e : ts[k]? with
    | none => rw [e] at h; cases h
    | some t' =>
      rw [e] at h
      have := feet_mem e (at_feet p t' u h a ha)
      simp [foot, this]
  | k :: p, .ins b C ns ts, u, h, a, ha => by
    simp only [T.at] at h
    cases e : ts[k]? with
    | none => rw [e] at h; cases h
    | some t' =>
      rw [e] at h
      have := feet_mem e (at_feet p t' u h a ha)
      simp [foot, this]
  | k :: p, .un, u, h, a, _ => by simp [T.at] at h
  | k :: p, .sh _, u, h, a, _ => by simp [T.at] at h
  | k :: p, .br _, u, h, a, _ => by simp [T.at] at h
  | k :: p, .dT _ _, u, h, a, _ => by simp [T.at] at h
theorem node_feet {S : List T} {i : Nat} {p : List Nat} {t : T} (h : node S i p = some t) : ∀ a ∈ foot t, a ∈ feet S := fun a ha => by
  unfold node at h
  cases e : S[i]? with
  | none => rw [e] at h; cases h
  | some u => rw [e] at h; exact feet_mem e (at_feet p u t h a ha)
/-- what a change of a child does to the feet of the row -/
theorem set_feet {ts : List T} {k : Nat} {t t' u : T} (hn : (feet ts).Nodup) (e : ts[k]? = some t) (hn' : (foot t').Nodup) (h : ∀ a ∈ foot t', a ∈ foot u ∨ a ∈ foot t) (hu : ∀ a ∈ foot u, a ∈ foot t ∨ a ∉ feet ts) :
    (feet (ts.set k t')).Nodup ∧ ∀ a ∈ feet (ts.set k t'), a ∈ foot t' ∨ (a ∈ feet ts ∧ a ∉ foot t) := by
  refine ⟨feet_set_nodup hn hn' fun a ha hl => ?_, fun a ha => ?_⟩
  · rcases h a ha with q | q
    · rcases hu a q with z | z
      · exact ⟨t, e, z⟩
      · exact absurd hl z
    · exact ⟨t, e, q⟩
  · obtain ⟨j, x, e1, h1⟩ := mem_feet ha
    by_cases hj : k = j
    · subst hj
      have hl : k < ts.length := (List.getElem?_eq_some_iff.mp e).1
      rw [List.getElem?_set_self hl] at e1
      have : t' = x := Option.some.inj e1
      subst this
      exact .inl h1
    · rw [List.getElem?_set_ne hj] at e1
      exact .inr ⟨feet_mem e1 h1, fun q => hj (feet_uniq hn e e1 q h1)⟩
theorem put_feet : ∀ (p : List Nat) (t0 t u t' : T), (foot t0).Nodup → t0.at p = some t → t0.put p u = some t' → (foot u).Nodup → (∀ a ∈ foot u, a ∈ foot t ∨ a ∉ foot t0) →
    (foot t').Nodup ∧ ∀ a ∈ foot t', a ∈ foot u ∨ (a ∈ foot t0 ∧ a ∉ foot t)
  | [], t0, t, u, t', _, e, e2, hu, _ => by
    have e' : u = t' := by simpa [T.put] using e2
    subst e'
    exact ⟨hu, fun a h => .inl h⟩
  | k :: p, .lst b ts, t, u, t', hn, e, e2, hu, hf => by
    simp only [T.at, T.put] at e e2
    cases q : ts[k]? with
    | none => rw [q] at e; cases e
    | some x =>
      rw [q] at e e2
      have e : x.at p = some t := e
      have e2 : (x.put p u).map (fun t' => T.lst b (ts.set k t')) = some t' := e2
      cases z : x.put p u with
      | none => rw [z] at e2; cases e2
      | some x' =>
        rw [z] at e2
        have e2 : T.lst b (ts.set k x') = t' := Option.some.inj e2
        subst e2
        simp only [foot] at hn ⊢
        obtain ⟨hb, hn⟩ := List.nodup_cons.mp hn
        have hx := foot_nodup_of hn q
        obtain ⟨h1, h2⟩ := put_feet p x t u x' hx e z hu fun a ha => (hf a ha).imp id fun z2 z3 => z2 (by simp [foot, feet_mem q z3])
        obtain ⟨h3, h4⟩ := set_feet (u := u) hn q h1 (fun a ha => (h2 a ha).imp id fun z => z.1) fun a ha => by
          rcases hf a ha with z2 | z2
          · exact .inl (at_feet p x t e a z2)
          · exact .inr fun z3 => z2 (by simp [foot, z3])
        have hsub : ∀ a ∈ feet (ts.set k x'), a ∈ foot u ∨ (a ∈ feet ts ∧ a ∉ foot t) := fun a ha => by
          rcases h4 a ha with z2 | ⟨z2, z3⟩
          · exact (h2 a z2).imp id fun w => ⟨feet_mem q w.1, w.2⟩
          · exact .inr ⟨z2, fun w => z3 (at_feet p x t e a w)⟩
        refine ⟨List.nodup_cons.mpr ⟨fun hm => ?_, h3⟩, fun a ha => ?_⟩
        · rcases hsub b hm with z2 | z2
          · rcases hf b z2 with w | w
            · exact hb (feet_mem q (at_feet p x t e b w))
            · exact w (by simp [foot])
          · exact hb z2.1
        · rcases List.mem_cons.mp ha with rfl | ha
          · exact .inr ⟨by simp, fun w => hb (feet_mem q (at_feet p x t e _ w))⟩
          · exact (hsub a ha).imp id fun w => ⟨by simp [w.1], w.2⟩
  | k :: p, .ins b C ns ts, t, u, t', hn, e, e2, hu, hf => by
    simp only [T.at, T.put] at e e2
    cases q : ts[k]? with
    | none => rw [q] at e; cases e
    | some x =>
      rw [q] at e e2
      have e : x.at p = some t := e
      have e2 : (x.put p u).map (fun t' => T.ins b C ns (ts.set k t')) = some t' := e2
      cases z : x.put p u with
      | none => rw [z] at e2; cases e2
      | some x' =>
        rw [z] at e2
        have e2 : T.ins b C ns (ts.set k x') = t' := Option.some.inj e2
        subst e2
        simp only [foot] at hn ⊢
        obtain ⟨hb, hn⟩ := List.nodup_cons.mp hn
        have hx := foot_nodup_of hn q
        obtain ⟨h1, h2⟩ := put_feet p x t u x' hx e z hu fun a ha => (hf a ha).imp id fun z2 z3 => z2 (by simp [foot, feet_mem q z3])
        obtain ⟨h3, h4⟩ := set_feet (u := u) hn q h1 (fun a ha => (h2 a ha).imp id fun z => z.1) fun a ha => by
          rcases hf a ha with z2 | z2
          · exact .inl (at_feet p x t e a z2)
          · exact .inr fun z3 => z2 (by simp [foot, z3])
        have hsub : ∀ a ∈ feet (ts.set k x'), a ∈ foot u ∨ (a ∈ feet ts ∧ a ∉ foot t) := fun a ha => by
          rcases h4 a ha with z2 | ⟨z2, z3⟩
          · exact (h2 a z2).imp id fun w => ⟨feet_mem q w.1, w.2⟩
          · exact .inr ⟨z2, fun w => z3 (at_feet p x t e a w)⟩
        refine ⟨List.nodup_cons.mpr ⟨fun hm => ?_, h3⟩, fun a ha => ?_⟩
        · rcases hsub b hm with z2 | z2
          · rcases hf b z2 with w | w
            · exact hb (feet_mem q (at_feet p x t e b w))
            · exact w (by simp [foot])
          · exact hb z2.1
        · rcases List.mem_cons.mp ha with rfl | ha
          · exact .inr ⟨by simp, fun w => hb (feet_mem q (at_feet p x t e _ w))⟩
          · exact (hsub a ha).imp id fun w => ⟨by simp [w.1], w.2⟩
  | k :: p, .un, t, u, t', _, e, _, _, _ => by simp [T.at] at e
  | k :: p, .sh _, t, u, t', _, e, _, _, _ => by simp [T.at] at e
  | k :: p, .br _, t, u, t', _, e, _, _, _ => by simp [T.at] at e
  | k :: p, .dT _ _, t, u, t', _, e, _, _, _ => by simp [T.at] at e
theorem RepTs.put {K : PySem.W.Frag} {R B H B' H' : Hp} (sb : Sub B B') : ∀ {ts : List T} {ws : List V} {k : Nat} {x x' : T}, RepTs K R B H ts ws → ts[k]? = some x → (feet ts).Nodup →
    (∀ w, RepT K R B H x w → RepT K R B' H' x' w) → (∀ b o, b ∈ feet ts → b ∉ foot x → H b = some o → H' b = some o) → RepTs K R B' H' (ts.set k x') ws
  | [], _, _, _, _, _, e, _, _, _ => by simp at e
  | y :: ts, _, 0, x, x', h, e, hn, hx, kp => by
    unfold RepTs at h
    obtain ⟨w, r, rfl, h1, h2⟩ := h
    have e' : y = x := by simpa using e
    subst e'
    simp only [feet] at hn
    rw [List.set_cons_zero]
    unfold RepTs
    refine ⟨w, r, rfl, hx w h1, h2.mono sb fun b o hb hh => kp b o (by simp [feet, hb]) (fun q => ?_) hh⟩
    exact (List.nodup_append.mp hn).2.2 b q b hb rfl
  | y :: ts, _, k + 1, x, x', h, e, hn, hx, kp => by
    unfold RepTs at h
    obtain ⟨w, r, rfl, h1, h2⟩ := h
    simp only [feet] at hn
    have e' : ts[k]? = some x := by simpa using e
    rw [List.set_cons_succ]
    unfold RepTs
    refine ⟨w, r, rfl, h1.mono sb fun b o hb hh => kp b o (by simp [feet, hb]) (fun q => ?_) hh, RepTs.put sb h2 e' (List.nodup_append.mp hn).2.1 hx fun b o hb hq hh => kp b o (by simp [feet, hb]) hq hh⟩
    exact (List.nodup_append.mp hn).2.2 b hb b (feet_mem e' q) rfl
theorem RepT.put {K : PySem.W.Frag} {R B H B' H' : Hp} (sb : Sub B B') {u t : T} (hu : ∀ w, RepT K R B H t w → RepT K R B' H' u w) : ∀ (p : List Nat) {t0 t' : T} {v : V}, RepT K R B H t0 v → t0.at p = some t → t0.put p u = some t' → (foot t0).Nodup →
    (∀ b o, b ∈ foot t0 → b ∉ foot t → H b = some o → H' b = some o) → RepT K R B' H' t' v
  | [], t0, t', v, h, e, e2, _, _ => by
    have e1 : t0 = t := by simpa [T.at] using e
    have e' : u = t' := by simpa [T.put] using e2
    subst e' e1
    exact hu v h
  | k :: p, .lst a ts, t', v, h, e, e2, hn, kp => by
    simp only [T.at, T.put] at e e2
    cases q : ts[k]? with
    | none => rw [q] at e; cases e
    | some x =>
      rw [q] at e e2
      have e : x.at p = some t := e
      have e2 : (x.put p u).map (fun t' => T.lst a (ts.set k t')) = some t' := e2
      cases z : x.put p u with
      | none => rw [z] at e2; cases e2
      | some x' =>
        rw [z] at e2
        have e2 : T.lst a (ts.set k x') = t' := Option.some.inj e2
        subst e2
        unfold RepT at h ⊢
        obtain ⟨rfl, ws, h1, h2⟩ := h
        simp only [foot] at hn
        obtain ⟨hb, hn⟩ := List.nodup_cons.mp hn
        refine ⟨rfl, ws, kp a _ (by simp [foot]) (fun w => hb (feet_mem q (at_feet p x t e a w))) h1, ?_⟩
        refine h2.put sb q hn (fun w hw => RepT.put sb hu p hw e z (foot_nodup_of hn q) fun b o hb1 hb2 => kp b o (by simp [foot, feet_mem q hb1]) hb2) fun b o hb1 hb2 => kp b o (by simp [foot, hb1]) fun w => hb2 (at_feet p x t e b w)
  | k :: p, .ins a C ns ts, t', v, h, e, e2, hn, kp => by
    simp only [T.at, T.put] at e e2
    cases q : ts[k]? with
    | none => rw [q] at e; cases e
    | some x =>
      rw [q] at e e2
      have e : x.at p = some t := e
      have e2 : (x.put p u).map (fun t' => T.ins a C ns (ts.set k t')) = some t' := e2
      cases z : x.put p u with
      | none => rw [z] at e2; cases e2
      | some x' =>
        rw [z] at e2
        have e2 : T.ins a C ns (ts.set k x') = t' := Option.some.inj e2
        subst e2
        unfold RepT at h ⊢
        obtain ⟨rfl, dx, ws, h1, hl, h2⟩ := h
        simp only [foot] at hn
        obtain ⟨hb, hn⟩ := List.nodup_cons.mp hn
        refine ⟨rfl, dx, ws, kp a _ (by simp [foot]) (fun w => hb (feet_mem q (at_feet p x t e a w))) h1, hl, ?_⟩
        refine h2.put sb q hn (fun w hw => RepT.put sb hu p hw e z (foot_nodup_of hn q) fun b o hb1 hb2 => kp b o (by simp [foot, feet_mem q hb1]) hb2) fun b o hb1 hb2 => kp b o (by simp [foot, hb1]) fun w => hb2 (at_feet p x t e b w)
  | k :: p, .un, t', v, h, e, _, _, _ => by simp [T.at] at e
  | k :: p, .sh _, t', v, h, e, _, _, _ => by simp [T.at] at e
  | k :: p, .br _, t', v, h, e, _, _, _ => by simp [T.at] at e
  | k :: p, .dT _ _, t', v, h, e, _, _, _ => by simp [T.at] at e
/-- THE CHANGE of a node of the state -/
theorem Rep.putG {G : List Addr} {K : PySem.W.Frag} {R B H B' H' : Hp} {S S' : List T} {σ : L2.St} (r : Rep K R B H S σ) {i : Nat} {p : List Nat} {t u : T} {adr0 : Addr} (e : SL.node S i p = some t) (ea : adr t = some adr0) (e2 : putN S i p u = some S') (sb : Sub B B') (bh : Sub B' H')
    (hu : ∀ w, RepT K R B H t w → RepT K R B' H' u w) (hn : (foot u).Nodup) (huf : ∀ a ∈ foot u, a ∈ foot t ∨ a ∉ feet S) (hub : ∀ a ∈ foot u, B' a = none ∧ R a = none)
    (hG : ∀ b ∈ G, b ∉ feet S ∧ R b = none) (kp : ∀ b o, b ∉ foot t → b ∉ G → H b = some o → H' b = some o) (hB : ∀ b ∈ feet S, b ∉ foot t → B' b = none) : Rep K R B' H' S' σ ∧ ∀ a ∈ feet S', a ∈ foot u ∨ (a ∈ feet S ∧ a ∉ foot t) := by
  unfold SL.node at e
  unfold putN at e2
  cases q : S[i]? with
  | none => rw [q] at e; cases e
  | some t0 =>
    rw [q] at e e2
    have e : t0.at p = some t := e
    have e2 : (t0.put p u).map (fun t' => S.set i t') = some S' := e2
    cases z : t0.put p u with
    | none => rw [z] at e2; cases e2
    | some t' =>
      rw [z] at e2
      have e2 : S.set i t' = S' := Option.some.inj e2
      subst e2
      have n0 := foot_nodup_of r.nd q
      obtain ⟨h1, h2⟩ := put_feet p t0 t u t' n0 e z hn fun a ha => (huf a ha).imp id fun w w2 => w (feet_mem q w2)
      obtain ⟨h3, h4⟩ := set_feet (u := u) r.nd q h1 (fun a ha => (h2 a ha).imp id fun w => w.1) fun a ha => (huf a ha).imp (fun w => at_feet p t0 t e a w) id
      have fin : ∀ a ∈ feet (S.set i t'), a ∈ foot u ∨ (a ∈ feet S ∧ a ∉ foot t) := fun a ha => by
        rcases h4 a ha with w | ⟨w, w2⟩
        · exact (h2 a w).imp id fun w => ⟨feet_mem q w.1, w.2⟩
        · exact .inr ⟨w, fun w3 => w2 (at_feet p t0 t e a w3)⟩
      have hil : i < S.length := (List.getElem?_eq_some_iff.mp q).1
      refine ⟨⟨bh, fun b o hb => ?_, h3, fun a ha => ?_, fun a ha => ?_, by rw [List.length_set]; exact r.len, fun j x ej => ?_⟩, fin⟩
      · refine kp b o (fun w => ?_) (fun w => ?_) (r.rh b o hb)
        · rw [r.rf b (feet_mem q (at_feet p t0 t e b w))] at hb; cases hb
        · rw [(hG b w).2] at hb; cases hb
      · rcases fin a ha with w | w
        · exact (hub a w).1
        · exact hB a w.1 w.2
      · rcases fin a ha with w | w
        · exact (hub a w).2
        · exact r.rf a w.1
      · by_cases hj : i = j
        · subst hj
          rw [List.getElem?_set_self hil] at ej
          have : t' = x := Option.some.inj ej
          subst this
          rcases r.sl i t0 q with rfl | ⟨v, hv, hr⟩
          · cases p with
            | nil =>
              have e1 : T.un = t := by simpa [T.at] using e
              subst e1
              cases ea
            | cons k p => simp [T.at] at e
          · exact .inr ⟨v, hv, hr.put sb hu p e z n0 fun b o hb1 hb2 hh => kp b o hb2 (fun w => (hG b w).1 (feet_mem q hb1)) hh⟩
        · rw [List.getElem?_set_ne hj] at ej
          refine (r.sl j x ej).imp id fun ⟨v, hv, hr⟩ => ⟨v, hv, hr.mono sb fun b o hb hh => kp b o (fun w => ?_) (fun w => (hG b w).1 (feet_mem ej hb)) hh⟩
          exact hj (feet_uniq r.nd q ej (at_feet p t0 t e b w) hb)
theorem Rep.put {K : PySem.W.Frag} {R B H B' H' : Hp} {S S' : List T} {σ : L2.St} (r : Rep K R B H S σ) {i : Nat} {p : List Nat} {t u : T} {adr0 : Addr} (e : SL.node S i p = some t) (ea : adr t = some adr0) (e2 : putN S i p u = some S') (sb : Sub B B') (bh : Sub B' H')
    (hu : ∀ w, RepT K R B H t w → RepT K R B' H' u w) (hn : (foot u).Nodup) (huf : ∀ a ∈ foot u, a ∈ foot t ∨ a ∉ feet S) (hub : ∀ a ∈ foot u, B' a = none ∧ R a = none)
    (kp : ∀ b o, b ∉ foot t → H b = some o → H' b = some o) (hB : ∀ b ∈ feet S, b ∉ foot t → B' b = none) : Rep K R B' H' S' σ ∧ ∀ a ∈ feet S', a ∈ foot u ∨ (a ∈ feet S ∧ a ∉ foot t) :=
  r.putG (G := []) e ea e2 sb bh hu hn huf hub (fun b hb => absurd hb List.not_mem_nil) (fun b o h _ => kp b o h) hB
end SL

set_option Elab.async false
set_option linter.all false
set_option maxRecDepth 100000
set_option maxHeartbeats 4000000
/-! SL5: sharing and moving; items, fields; new lists and tuples. -/
namespace SL
open PySem PySem.Spec PyProof.Rows L2

/-! ### sharing -/
mutual
def clean : T → Bool
  | .un => true
  | .sh _ => true
  | .br _ => false
  | .lst _ ts => cleans ts
  | .ins _ _ _ ts => cleans ts
  | .dT _ _ => true
def cleans : List T → Bool
  | [] => true
  | t :: ts => clean t && cleans ts
end
mutual
theorem RepT.frz {K : PySem.W.Frag} {R B H B' : Hp} (s : Sub B B') : ∀ {t : T} {v : V}, clean t = true → (∀ a o, a ∈ foot t → H a = some o → B' a = some o) → RepT K R B H t v → RepD K B' (toD t) v
  | .un, _, _, _, _ => by unfold SL.toD RepD; trivial
  | .sh _, _, _, _, h => by unfold RepT at h; unfold SL.toD; exact h.mono s
  | .br _, _, c, _, _ => by simp [clean] at c
  | .dT _ _, _, _, _, _ => by unfold SL.toD RepD; trivial
  | .lst a ts, _, c, k, h => by
    unfold RepT at h; unfold SL.toD RepD
    obtain ⟨e, ws, h1, h2⟩ := h
    exact ⟨a, ws, e, k a _ (by simp [foot]) h1, RepTs.frz s (by simpa [clean] using c) (fun b o hb => k b o (by simp [foot, hb])) h2⟩
  | .ins a C ns ts, _, c, k, h => by
    unfold RepT at h; unfold SL.toD RepD
    obtain ⟨e, dx, ws, h1, hl, h2⟩ := h
    exact ⟨a, dx, ws, e, k a _ (by simp [foot]) h1, hl, RepTs.frz s (by simpa [clean] using c) (fun b o hb => k b o (by simp [foot, hb])) h2⟩
theorem RepTs.frz {K : PySem.W.Frag} {R B H B' : Hp} (s : Sub B B') : ∀ {ts : List T} {ws : List V}, cleans ts = true → (∀ a o, a ∈ feet ts → H a = some o → B' a = some o) → RepTs K R B H ts ws → RepDs K B' (toDs ts) ws
  | [], _, _, _, h => by unfold RepTs at h; unfold SL.toDs RepDs; exact h
  | t :: ts, _, c, k, h => by
    unfold RepTs at h; unfold SL.toDs RepDs
    obtain ⟨w, r', e, h1, h2⟩ := h
    have c : clean t = true ∧ cleans ts = true := by simpa [cleans] using c
    exact ⟨w, r', e, RepT.frz s c.1 (fun b o hb => k b o (by simp [feet, hb])) h1, RepTs.frz s c.2 (fun b o hb => k b o (by simp [feet, hb])) h2⟩
end
/-- B with the feet F of H -/
def join (B H : Hp) (F : List Addr) : Hp := fun a => if a ∈ F then H a else B a
theorem join_in {B H : Hp} {F : List Addr} {a : Addr} (h : a ∈ F) : join B H F a = H a := by unfold join; rw [if_pos h]
theorem join_out {B H : Hp} {F : List Addr} {a : Addr} (h : a ∉ F) : join B H F a = B a := by unfold join; rw [if_neg h]
theorem join_sub {B H : Hp} {F : List Addr} (h : ∀ a ∈ F, B a = none) : Sub B (join B H F) := fun a o e => by
  by_cases q : a ∈ F
  · rw [h a q] at e; cases e
  · rw [join_out q]; exact e
theorem join_h {B H : Hp} {F : List Addr} (h : Sub B H) : Sub (join B H F) H := fun a o e => by
  by_cases q : a ∈ F
  · rw [join_in q] at e; exact e
  · rw [join_out q] at e; exact h a o e
def shr (p : P) (S : List T) (Kp : KP) : Prop := match p with
  | .sh d => Kp (.sh d) S
  | .br d => Kp (.br d) S
  | .ow t => clean t = true ∧ Kp (.sh (toD t)) S
  | .at i q => optK (node S i q) fun t => clean t = true ∧ optK (putN S i q (.sh (toD t))) fun S' => Kp (.sh (toD t)) S'
def mov (p : P) (S : List T) (Kp : KP) : Prop := match p with
  | .at i q => optK (node S i q) fun t => optK (putN S i q .un) fun S' => Kp (.ow t) S'
  | _ => Kp p S
def wShare (f : WE) : WE := fun S Kp Ke => f S (fun p S1 => shr p S1 Kp) Ke
def wMove (f : WE) : WE := fun S Kp Ke => f S (fun p S1 => mov p S1 Kp) Ke
section
variable {K : PySem.W.Frag} {c : Ct} {B H B' H' : Hp} {S S' : List T} {F : List Addr} {σ : L2.St} {Kp : KP} {Q : VK}
theorem shr_ok {p : P} {v : V} (ok : Ok K c B H S σ) (tr0 : Tr c.B0 c.H0 c.F0 B H (feet S ++ footP p)) (r : RepP K c.R B H S p v) (h : shr p S Kp) (post : Post K c B H S F σ Kp Q) (hF : ∀ a ∈ footP p, a ∈ F) : Q v H := by
  cases p with
  | sh d => exact post.here ok h r (fun a ha => by simp [footP] at ha)
  | br d => exact post.here ok h r (fun a ha => by simp [footP] at ha)
  | ow t =>
    obtain ⟨hc, h⟩ := h
    unfold RepP at r
    obtain ⟨r1, r2, r3⟩ := r
    have hb : ∀ a ∈ foot t, B a = none := fun a ha => (r3 a ha).2.1
    have hs := join_sub (H := H) hb
    have rep : Rep K c.R (join B H (foot t)) H S σ := by
      refine ⟨join_h ok.rep.bh, ok.rep.rh, ok.rep.nd, fun a ha => ?_, ok.rep.rf, ok.rep.len, fun i t' e => (ok.rep.sl i t' e).imp id fun ⟨w, e1, e2⟩ => ⟨w, e1, e2.mono hs fun _ _ _ h => h⟩⟩
      rw [join_out fun q => (r3 a q).1 ha]
      exact ok.rep.bf a ha
    have tr : ∀ {B0 H0 : Hp} {F0 G : List Addr}, Tr B0 H0 F0 B H (feet S ++ G) → (∀ a ∈ foot t, a ∈ G) → Tr B0 H0 F0 (join B H (foot t)) H (feet S) := fun {B0 H0 F0 G} t0 hG => by
      refine ⟨t0.sub.trans hs, t0.keep, fun a ha => t0.foot a (List.mem_append_left _ ha), fun a o e => ?_, t0.there⟩
      by_cases q : a ∈ foot t
      · exact .inr (t0.foot a (List.mem_append_right _ (hG a q)))
      · rw [join_out q] at e; exact t0.base a o e
    exact post _ S v _ H h ⟨rep, tr tr0 fun a ha => ha⟩ (tr (Tr.refl B H (feet S ++ F)) hF).nil' (r1.frz hs hc fun a o ha e => by rw [join_in ha]; exact e)
  | «at» i q =>
    obtain ⟨t, e, hc, h⟩ := optK_some h
    obtain ⟨S', e2, h⟩ := optK_some h
    unfold RepP at r
    obtain ⟨t', a0, e', ea, rfl⟩ := r
    rw [e] at e'
    cases e'
    have hb : ∀ a ∈ foot t, B a = none := fun a ha => ok.rep.bf a (node_feet e a ha)
    have hs := join_sub (H := H) hb
    have fr : ∀ w, RepT K c.R B H t w → RepD K (join B H (foot t)) (toD t) w := fun w hw => hw.frz hs hc fun a o ha e => by rw [join_in ha]; exact e
    obtain ⟨rep, hf⟩ := ok.rep.put (B' := join B H (foot t)) (H' := H) e ea e2 hs (join_h ok.rep.bh) (fun w hw => by unfold RepT; exact fr w hw) (by simp [foot]) (fun a ha => by simp [foot] at ha) (fun a ha => by simp [foot] at ha) (fun _ _ _ e => e) fun b hb1 hb2 => by
      rw [join_out hb2]; exact ok.rep.bf b hb1
    have tr : ∀ {B0 H0 : Hp} {F0 G : List Addr}, Tr B0 H0 F0 B H (feet S ++ G) → Tr B0 H0 F0 (join B H (foot t)) H (feet S') := fun {B0 H0 F0 G} t0 => by
      refine ⟨t0.sub.trans hs, t0.keep, fun a ha => ?_, fun a o e3 => ?_, t0.there⟩
      · rcases hf a ha with z | z
        · simp [foot] at z
        · exact t0.foot a (List.mem_append_left _ z.1)
      · by_cases q : a ∈ foot t
        · exact .inr (t0.foot a (List.mem_append_left _ (node_feet e a q)))
        · rw [join_out q] at e3; exact t0.base a o e3
    exact post _ S' _ _ H h ⟨rep, tr tr0⟩ (tr (Tr.refl B H (feet S ++ F))).nil' (fr _ (ok.rep.node e ea))
theorem mov_ok {p : P} {v : V} (ok : Ok K c B H S σ) (tr0 : Tr c.B0 c.H0 c.F0 B H (feet S ++ footP p)) (r : RepP K c.R B H S p v) (h : mov p S Kp) (post : Post K c B H S F σ Kp Q) (hF : ∀ a ∈ footP p, a ∈ F) : Q v H := by
  cases p with
  | sh d => exact post.here ok h r hF
  | br d => exact post.here ok h r hF
  | ow t => exact post.here ok h r hF
  | «at» i q =>
    obtain ⟨t, e, h⟩ := optK_some h
    obtain ⟨S', e2, h⟩ := optK_some h
    unfold RepP at r
    obtain ⟨t', a0, e', ea, rfl⟩ := r
    rw [e] at e'
    cases e'
    obtain ⟨rep, hf⟩ := ok.rep.put (B' := B) (H' := H) (u := .un) e ea e2 (Sub.refl B) ok.rep.bh (fun w hw => by unfold RepT; trivial) (by simp [foot]) (fun a ha => by simp [foot] at ha) (fun a ha => by simp [foot] at ha) (fun _ _ _ e => e) fun b hb1 hb2 => ok.rep.bf b hb1
    have hf' : ∀ a ∈ feet S', a ∈ feet S ∧ a ∉ foot t := fun a ha => by
      rcases hf a ha with z | z
      · simp [foot] at z
      · exact z
    have tr : ∀ {B0 H0 : Hp} {F0 G : List Addr}, Tr B0 H0 F0 B H (feet S ++ G) → Tr B0 H0 F0 B H (feet S' ++ foot t) := fun {B0 H0 F0 G} t0 => by
      refine t0.perm fun a ha => ?_
      rcases List.mem_append.mp ha with z | z
      · exact List.mem_append_left _ (hf' a z).1
      · exact List.mem_append_left _ (node_feet e a z)
    refine post _ S' _ _ H h ⟨rep, (tr tr0).left⟩ (tr (Tr.refl B H (feet S ++ F))) ?_
    have hn : (foot t).Nodup := by
      unfold node at e
      cases q2 : S[i]? with
      | none => rw [q2] at e; cases e
      | some t0 =>
        rw [q2] at e
        have e3 : t0.at q = some t := e
        have aux : ∀ (q : List Nat) (t0 : T), t0.at q = some t → (foot t0).Nodup → (foot t).Nodup := by
          intro q
          induction q with
          | nil =>
            intro t0 h hn
            have e1 : t0 = t := by simpa [T.at] using h
            subst e1; exact hn
          | cons k q ih =>
            intro t0 h hn
            cases t0 <;> simp only [T.at] at h <;> first | (cases h; done) | skip
            all_goals
              rename_i ts
              cases q3 : ts[k]? with
              | none => rw [q3] at h; cases h
              | some x =>
                rw [q3] at h
                simp only [foot] at hn
                exact ih x h (foot_nodup_of (List.nodup_cons.mp hn).2 q3)
        exact aux q t0 e3 (foot_nodup_of ok.rep.nd q2)
    exact ⟨ok.rep.node e ea, hn, fun a ha => ⟨fun z => (hf' a z).2 ha, ok.rep.bf a (node_feet e a ha), ok.rep.rf a (node_feet e a ha)⟩⟩
end
section
variable {X : Cx} {c : Ct} {Ke : KE} {e : Expr} {f : WE}
theorem i_share (h : PE X e (tE X.K c Ke f)) : PE X e (tE X.K c Ke (wShare f)) := by
  refine wkE h ?_
  rintro σ H Q ⟨S, B, Kp, ok, hf, post⟩
  refine ⟨S, B, _, ok, hf, fun p S1 v B1 H1 h1 ok1 t1 r1 => ?_⟩
  exact shr_ok ok1 (ok.tr.trans t1.nil) r1 h1 (post_after t1.nil post) fun a ha => ha
theorem i_move (h : PE X e (tE X.K c Ke f)) : PE X e (tE X.K c Ke (wMove f)) := by
  refine wkE h ?_
  rintro σ H Q ⟨S, B, Kp, ok, hf, post⟩
  refine ⟨S, B, _, ok, hf, fun p S1 v B1 H1 h1 ok1 t1 r1 => ?_⟩
  exact mov_ok ok1 (ok.tr.trans t1.nil) r1 h1 (post_after t1.nil post) fun a ha => ha
end
end SL

set_option Elab.async false
set_option linter.all false
set_option maxRecDepth 100000
set_option maxHeartbeats 4000000
/-! SL6: items, fields, new lists and tuples, slices. -/
namespace SL
open PySem PySem.Spec PyProof.Rows L2

/-! ### a child as a value -/
/-- a child of a temporary -/
def tP : T → Option P
  | .un => none
  | .sh d => some (.sh d)
  | .br d => some (brP d)
  | t => some (.ow t)
/-- a child of the place (i, q) at j -/
def cP (i : Nat) (q : List Nat) (j : Nat) : T → Option P
  | .un => none
  | .sh d => some (.sh d)
  | .br d => some (brP d)
  | _ => some (.at i (q ++ [j]))
section
variable {K : PySem.W.Frag} {c : Ct} {B H B' H' : Hp} {S S' : List T} {F : List Addr} {σ : L2.St} {Kp : KP} {Q : VK}
theorem tP_rep {t : T} {p : P} {w : V} (e : tP t = some p) (r : RepT K c.R B H t w) (hn : (foot t).Nodup) (hf : ∀ a ∈ foot t, a ∉ feet S ∧ B a = none ∧ c.R a = none) : RepP K c.R B H S p w ∧ ∀ a ∈ footP p, a ∈ foot t := by
  cases t <;> simp only [tP] at e <;> first | (cases e; done) | skip
  · cases e; unfold RepT at r; exact ⟨r, fun a ha => by simp [footP] at ha⟩
  · cases e; unfold RepT at r; exact ⟨brP_rep r, fun a ha => by rw [footP_brP] at ha; simp at ha⟩
  all_goals (cases e; exact ⟨⟨r, hn, hf⟩, fun a ha => ha⟩)
theorem cP_rep {t : T} {p : P} {w : V} {i j : Nat} {q : List Nat} (e : cP i q j t = some p) (r : RepT K c.R B H t w) (hn : node S i (q ++ [j]) = some t) : RepP K c.R B H S p w ∧ footP p = [] := by
  cases t <;> simp only [cP] at e <;> first | (cases e; done) | skip
  · cases e; unfold RepT at r; exact ⟨r, rfl⟩
  · cases e; unfold RepT at r; exact ⟨brP_rep r, footP_brP _⟩
  all_goals (cases e; exact ⟨⟨_, _, hn, rfl, r.adr rfl⟩, rfl⟩)
end

/-! ### items -/
def wIx : O2 := fun S p q Kp => match pk S q with
  | .int i => match p with
    | .sh (.lst ds) => optK (atI ds i) fun d => Kp (.sh d) S
    | .sh (.tup ds) => optK (atI ds i) fun d => Kp (.sh d) S
    | .br (.lst ds) => optK (atI ds i) fun d => Kp (brP d) S
    | .br (.tup ds) => optK (atI ds i) fun d => Kp (brP d) S
    | .ow (.lst _ ts) => optK (atI ts i) fun t => optK (tP t) fun p' => Kp p' S
    | .at k path => match node S k path with
      | some (.lst _ ts) => optK (ixN ts.length i) fun j => optK ts[j]? fun t => optK (cP k path j t) fun p' => Kp p' S
      | _ => False
    | _ => False
  | _ => False
theorem atI_len {α β : Type} {xs : List α} {ys : List β} {i : Int} {x : α} (hl : ys.length = xs.length) (h : atI xs i = some x) : ∃ j, ixN xs.length i = some j ∧ xs[j]? = some x ∧ ∀ y, ys[j]? = some y → atI ys i = some y := by
  unfold atI at h ⊢
  cases e : ixN xs.length i with
  | none => rw [e] at h; cases h
  | some j =>
    rw [e] at h
    refine ⟨j, rfl, h, fun y hy => ?_⟩
    rw [hl, e]; exact hy
abbrev rIxLT (K : PySem.W.Frag) : R2 := fun x y H Q => rIxL K x y H Q ∨ rIxT K x y H Q
theorem op2_ix {K : PySem.W.Frag} : Op2 K (rIxLT K) wIx := by
  intro c B H S σ p q v w Kp Q ok tr0 rp rq dj h post
  unfold wIx at h
  cases e : pk S q <;> rw [e] at h <;> first | exact h.elim | skip
  rename_i i
  have ew := pk_int ok.rep rq e
  have nof : ∀ {d : D}, ∀ a ∈ footP (brP d), a ∈ footP p ++ footP q := fun a ha => by rw [footP_brP] at ha; simp at ha
  have nosh : ∀ {d : D}, ∀ a ∈ footP (P.sh d), a ∈ footP p ++ footP q := fun a ha => by simp [footP] at ha
  cases p with
  | sh d =>
    cases d <;> first | exact h.elim | skip
    · obtain ⟨d, e1, h⟩ := optK_some h
      unfold RepP RepD at rp
      obtain ⟨a, ws, rfl, h1, h2⟩ := rp
      obtain ⟨j, _, e3, e4⟩ := atI_len (h2.len) e1
      obtain ⟨u, e5, e6⟩ := h2.get e3
      exact .inl ⟨a, ws, i, u, rfl, ew, SqL.of (ok.rep.bh a _ h1), e4 u e5, post.here ok h e6 nosh⟩
    · obtain ⟨d, e1, h⟩ := optK_some h
      unfold RepP RepD at rp
      obtain ⟨a, ws, rfl, h1, h2⟩ := rp
      obtain ⟨j, _, e3, e4⟩ := atI_len (h2.len) e1
      obtain ⟨u, e5, e6⟩ := h2.get e3
      exact .inr ⟨a, ws, i, u, rfl, ew, ok.rep.bh.t h1, e4 u e5, post.here ok h e6 nosh⟩
  | br d =>
    cases d <;> first | exact h.elim | skip
    · obtain ⟨d, e1, h⟩ := optK_some h
      unfold RepP RepD at rp
      obtain ⟨a, ws, rfl, h1, h2⟩ := rp
      obtain ⟨j, _, e3, e4⟩ := atI_len (h2.len) e1
      obtain ⟨u, e5, e6⟩ := h2.get e3
      exact .inl ⟨a, ws, i, u, rfl, ew, SqL.of (ok.rep.rh a _ h1), e4 u e5, post.here ok h (brP_rep e6) nof⟩
    · obtain ⟨d, e1, h⟩ := optK_some h
      unfold RepP RepD at rp
      obtain ⟨a, ws, rfl, h1, h2⟩ := rp
      obtain ⟨j, _, e3, e4⟩ := atI_len (h2.len) e1
      obtain ⟨u, e5, e6⟩ := h2.get e3
      exact .inr ⟨a, ws, i, u, rfl, ew, ok.rep.rh.t h1, e4 u e5, post.here ok h (brP_rep e6) nof⟩
  | ow t =>
    cases t <;> first | exact h.elim | skip
    rename_i a ts
    obtain ⟨t, e1, h⟩ := optK_some h
    obtain ⟨p', e2, h⟩ := optK_some h
    unfold RepP at rp
    obtain ⟨r1, r2, r3⟩ := rp
    unfold RepT at r1
    obtain ⟨rfl, ws, h1, h2⟩ := r1
    obtain ⟨j, _, e3, e4⟩ := atI_len (h2.len) e1
    obtain ⟨u, e5, e6⟩ := h2.get e3
    simp only [foot] at r2
    have sub : ∀ b ∈ foot t, b ∈ foot (T.lst a ts) := fun b hb => by simp [foot, feet_mem e3 hb]
    obtain ⟨r4, r5⟩ := tP_rep (S := S) e2 e6 (foot_nodup_of (List.nodup_cons.mp r2).2 e3) fun b hb => r3 b (sub b hb)
    exact .inl ⟨a, ws, i, u, rfl, ew, SqL.of h1, e4 u e5, post.here ok h r4 fun b hb => List.mem_append_left _ (sub b (r5 b hb))⟩
  | «at» k path =>
    unfold RepP at rp
    obtain ⟨t, a, en, ea, rfl⟩ := rp
    simp only [en] at h
    cases t <;> first | exact h.elim | skip
    rename_i a' ts
    cases ea
    obtain ⟨j, e1, h⟩ := optK_some h
    obtain ⟨t, e3, h⟩ := optK_some h
    obtain ⟨p', e2, h⟩ := optK_some h
    have r1 := ok.rep.node en rfl
    unfold RepT at r1
    obtain ⟨_, ws, h1, h2⟩ := r1
    obtain ⟨u, e5, e6⟩ := h2.get e3
    have en2 : node S k (path ++ [j]) = some t := by
      rw [node_append en]
      simp only [T.at, e3, Option.bind_some]
    obtain ⟨r4, r5⟩ := cP_rep e2 e6 en2
    refine .inl ⟨_, ws, i, u, rfl, ew, SqL.of h1, ?_, post.here ok h r4 fun b hb => by rw [r5] at hb; simp at hb⟩
    unfold atI
    rw [h2.len, e1]
    exact e5
section
variable {X : Cx} {c : Ct} {Ke : KE} {a b e : Expr} {es : List Expr} {f h : WE} {pos : Pos}
theorem i_item (ha : PE X a (tE X.K c Ke f)) (hb : PE X b (tE X.K c Ke h)) (hs : PlainIx b := by exact fun _ _ => rfl) : PE X (.Subscript a b pos) (tE X.K c Ke (w2 wIx f h)) :=
  i_ix (ix_list.or ix_tup) op2_ix ha hb hs
end

/-! ### fields -/
def fpos (f : Str) : List Str → Option Nat
  | [] => none
  | g :: r => if f = g then some 0 else (fpos f r).map (· + 1)
theorem fpos_lookup {f : Str} : ∀ {ns : List Str} {ws : List V} {j : Nat} {w : V}, fpos f ns = some j → ws[j]? = some w → (ns.zip ws).lookup f = some w
  | [], _, _, _, h, _ => by simp [fpos] at h
  | g :: ns, [], j, w, _, e => by simp at e
  | g :: ns, x :: ws, j, w, h, e => by
    simp only [fpos] at h
    by_cases q : f = g
    · rw [if_pos q] at h
      cases h
      have e' : x = w := by simpa using e
      subst e' q
      simp [List.lookup]
    · rw [if_neg q] at h
      cases z : fpos f ns with
      | none => rw [z] at h; cases h
      | some k =>
        rw [z] at h
        have hj : k + 1 = j := Option.some.inj h
        subst hj
        have hb : (f == g) = false := beq_eq_false_iff_ne.mpr q
        rw [List.zip_cons_cons]
        simp only [List.lookup, hb]
        exact fpos_lookup z (by simpa using e)
def wFld (C : Addr) (f : Str) : O1 := fun S p Kp => match p with
  | .sh (.ins C' ns ds) => C' = C ∧ optK (fpos f ns) fun j => optK ds[j]? fun d => Kp (.sh d) S
  | .br (.ins C' ns ds) => C' = C ∧ optK (fpos f ns) fun j => optK ds[j]? fun d => Kp (brP d) S
  | .ow (.ins _ C' ns ts) => C' = C ∧ optK (fpos f ns) fun j => optK ts[j]? fun t => optK (tP t) fun p' => Kp p' S
  | .at k path => match node S k path with
    | some (.ins _ C' ns ts) => C' = C ∧ optK (fpos f ns) fun j => optK ts[j]? fun t => optK (cP k path j t) fun p' => Kp p' S
    | _ => False
  | _ => False
section
variable {X : Cx} {c : Ct} {Ke : KE} {a b e : Expr} {es : List Expr} {f h : WE} {pos : Pos}
theorem i_fld {C : Addr} {n : Str} (hC : Cls X.K C) (hN : NoAttr X.K C n) (he : PE X e (tE X.K c Ke f)) (hb : attributeBase e n X.env (eval e X.env) = eval e X.env := by rfl) : PE X (.Attribute e n pos) (tE X.K c Ke (w1 (wFld C n) f)) := by
  refine wkE (pe_fld he hb) ?_
  rintro σ H Q ⟨S, B, Kp, ok, hf, post⟩
  refine ⟨S, B, _, ok, hf, fun p S1 v B1 H1 h1 ok1 t1 r1 => ?_⟩
  have post := post_after t1.nil post
  cases p with
  | sh d =>
    cases d <;> first | exact h1.elim | skip
    obtain ⟨rfl, h1⟩ := h1
    obtain ⟨j, e1, h1⟩ := optK_some h1
    obtain ⟨d, e2, h1⟩ := optK_some h1
    unfold RepP RepD at r1
    obtain ⟨a, dx, ws, rfl, h2, hl, h3⟩ := r1
    obtain ⟨u, e5, e6⟩ := h3.get e2
    exact ⟨a, _, dx, _, u, rfl, ok1.rep.bh a _ h2, hC, hN, fpos_lookup e1 e5, post.here ok1 h1 e6 fun a ha => by simp [footP] at ha⟩
  | br d =>
    cases d <;> first | exact h1.elim | skip
    obtain ⟨rfl, h1⟩ := h1
    obtain ⟨j, e1, h1⟩ := optK_some h1
    obtain ⟨d, e2, h1⟩ := optK_some h1
    unfold RepP RepD at r1
    obtain ⟨a, dx, ws, rfl, h2, hl, h3⟩ := r1
    obtain ⟨u, e5, e6⟩ := h3.get e2
    exact ⟨a, _, dx, _, u, rfl, ok1.rep.rh a _ h2, hC, hN, fpos_lookup e1 e5, post.here ok1 h1 (brP_rep e6) fun a ha => by rw [footP_brP] at ha; simp at ha⟩
  | ow t =>
    cases t <;> first | exact h1.elim | skip
    rename_i a C' ns ts
    obtain ⟨rfl, h1⟩ := h1
    obtain ⟨j, e1, h1⟩ := optK_some h1
    obtain ⟨t, e3, h1⟩ := optK_some h1
    obtain ⟨p', e2, h1⟩ := optK_some h1
    unfold RepP at r1
    obtain ⟨r1, r2, r3⟩ := r1
    unfold RepT at r1
    obtain ⟨rfl, dx, ws, h2, hl, h3⟩ := r1
    obtain ⟨u, e5, e6⟩ := h3.get e3
    simp only [foot] at r2
    have sub : ∀ b ∈ foot t, b ∈ foot (T.ins a C' ns ts) := fun b hb => by simp [foot, feet_mem e3 hb]
    obtain ⟨r4, r5⟩ := tP_rep (S := S1) e2 e6 (foot_nodup_of (List.nodup_cons.mp r2).2 e3) fun b hb => r3 b (sub b hb)
    exact ⟨a, _, dx, _, u, rfl, h2, hC, hN, fpos_lookup e1 e5, post.here ok1 h1 r4 fun b hb => sub b (r5 b hb)⟩
  | «at» k path =>
    unfold RepP at r1
    obtain ⟨t, a, en, ea, rfl⟩ := r1
    simp only [wFld, en] at h1
    cases t <;> first | exact h1.elim | skip
    rename_i a' C' ns ts
    cases ea
    obtain ⟨rfl, h1⟩ := h1
    obtain ⟨j, e1, h1⟩ := optK_some h1
    obtain ⟨t, e3, h1⟩ := optK_some h1
    obtain ⟨p', e2, h1⟩ := optK_some h1
    have r1 := ok1.rep.node en rfl
    unfold RepT at r1
    obtain ⟨_, dx, ws, h2, hl, h3⟩ := r1
    obtain ⟨u, e5, e6⟩ := h3.get e3
    have en2 : node S1 k (path ++ [j]) = some t := by
      rw [node_append en]
      simp only [T.at, e3, Option.bind_some]
    obtain ⟨r4, r5⟩ := cP_rep e2 e6 en2
    exact ⟨_, _, dx, _, u, rfl, h2, hC, hN, fpos_lookup e1 e5, post.here ok1 h1 r4 fun b hb => by rw [r5] at hb; simp at hb⟩
end

/-! ### new lists and tuples -/
def pT : P → T
  | .sh d => .sh d
  | .br d => .br d
  | .ow t => t
  | .at _ _ => .un
def shD : P → Option D
  | .sh d => some d
  | .br d => if flatD d = true then some d else none
  | _ => none
def shDs : List P → Option (List D)
  | [] => some []
  | p :: ps => (shD p).bind fun d => (shDs ps).map fun ds => d :: ds
def wLst : WA → WE := fun f S Kp Ke => f S (fun ps S1 => ps.length ≤ 1000 ∧ ∀ a, Kp (.ow (.lst a (ps.map pT))) S1) Ke
def wTup : WA → WE := fun f S Kp Ke => f S (fun ps S1 => ps.length ≤ 1000 ∧ optK (shDs ps) fun ds => Kp (.sh (.tup ds)) S1) Ke
section
variable {K : PySem.W.Frag} {c : Ct} {B H B' H' : Hp} {S S' : List T} {F : List Addr} {σ : L2.St} {Kp : KP} {Q : VK}
theorem pT_reps {ps : List P} {vs : List V} (r : RepPs K c.R B H S ps vs) : RepTs K c.R B H (ps.map pT) vs ∧ (feet (ps.map pT)).Nodup ∧ (∀ a ∈ feet (ps.map pT), a ∈ feetP ps ∧ H a ≠ none ∧ a ∉ feet S ∧ B a = none ∧ c.R a = none) ∧ vs.length = ps.length := by
  induction r with
  | nil => exact ⟨by unfold RepTs; rfl, by simp [feet], fun a ha => by simp [feet] at ha, rfl⟩
  | @cons p v ps vs r d _ ih =>
    obtain ⟨i1, i2, i3, i4⟩ := ih
    have h1 : RepT K c.R B H (pT p) v ∧ foot (pT p) = footP p ∧ (footP p).Nodup := by
      cases p with
      | sh d => unfold RepP at r; exact ⟨by unfold pT RepT; exact r, rfl, by simp [footP]⟩
      | br d => unfold RepP at r; exact ⟨by unfold pT RepT; exact r, rfl, by simp [footP]⟩
      | ow t => unfold RepP at r; exact ⟨r.1, rfl, r.2.1⟩
      | «at» i q => exact ⟨by unfold pT RepT; trivial, by simp [pT, foot, footP], by simp [footP]⟩
    refine ⟨?_, ?_, fun a ha => ?_, by simp [i4]⟩
    · rw [List.map_cons]; unfold RepTs; exact ⟨v, vs, rfl, h1.1, i1⟩
    · rw [List.map_cons]; simp only [feet]
      refine List.nodup_append.mpr ⟨by rw [h1.2.1]; exact h1.2.2, i2, fun a ha b hb e => ?_⟩
      subst e
      rw [h1.2.1] at ha
      exact d a ha (i3 a hb).1
    · rw [List.map_cons] at ha
      simp only [feet] at ha
      rcases List.mem_append.mp ha with z | z
      · rw [h1.2.1] at z
        exact ⟨by simp [feetP, z], (r.some z).1, (r.some z).2⟩
      · exact ⟨by simp [feetP, (i3 a z).1], (i3 a z).2⟩
theorem shDs_reps {ps : List P} {vs : List V} (r : RepPs K c.R B H S ps vs) : ∀ {ds : List D}, shDs ps = some ds → RepDs K B ds vs := by
  induction r with
  | nil => intro ds h; cases h; unfold RepDs; rfl
  | @cons p v ps vs r d _ ih =>
    intro ds h
    simp only [shDs] at h
    cases e : shD p with
    | none => rw [e] at h; cases h
    | some d =>
      rw [e] at h
      have h : (shDs ps).map (fun ds => d :: ds) = some ds := h
      cases e2 : shDs ps with
      | none => rw [e2] at h; cases h
      | some ds' =>
        rw [e2] at h
        have h : d :: ds' = ds := Option.some.inj h
        subst h
        unfold RepDs
        refine ⟨v, vs, rfl, ?_, ih e2⟩
        cases p <;> simp only [shD] at e <;> first | (cases e; done) | skip
        · cases e; exact r
        · split at e
          · rename_i hf; cases e; exact flat_any hf r
          · cases e
/-- a new owned list -/
theorem new_lst {a : Addr} {ts : List T} {vs : List V} (ok : Ok K c B H S σ) (tr0 : Tr c.B0 c.H0 c.F0 B H (feet S ++ F)) (n : H a = none) (r : RepTs K c.R B H ts vs) (hn : (feet ts).Nodup)
    (hf : ∀ b ∈ feet ts, b ∈ F ∧ b ∉ feet S ∧ B b = none ∧ c.R b = none) (k : Kp (.ow (.lst a ts)) S) (post : Post K c B H S F σ Kp Q) : Q (.ref a) (upd H a (.lst vs)) := by
  obtain ⟨ok1, t1⟩ := ok.own1 (o := .lst vs) n
  have hH : ∀ b ∈ feet ts, b ≠ a := fun b hb e => by subst e; exact feet_some r hb n
  refine post _ S _ B _ k ok1 ?_ ⟨?_, ?_, fun b hb => ?_⟩
  · refine ⟨Sub.refl B, fun b o _ e => by rw [upd_ne (ne_of_none e n)]; exact e, fun b hb => ?_, fun b o e => .inl e, t1.there⟩
    rcases List.mem_append.mp hb with z | z
    · exact .inl (List.mem_append_left _ z)
    · rcases List.mem_cons.mp (show b ∈ a :: feet ts by simpa [footP, foot] using z) with rfl | z
      · exact .inr n
      · exact .inl (List.mem_append_right _ (hf b z).1)
  · unfold RepT
    exact ⟨rfl, vs, upd_same, r.mono (Sub.refl B) fun b o hb e => by rw [upd_ne (hH b hb)]; exact e⟩
  · simp only [foot]
    exact List.nodup_cons.mpr ⟨fun z => hH a z rfl, hn⟩
  · simp only [foot] at hb
    rcases List.mem_cons.mp hb with rfl | hb
    · exact ⟨fun z => ok.rep.feet_some z n, none_of_sub ok.rep.bh n, none_of_sub ok.rep.rh n⟩
    · exact (hf b hb).2
/-- a new shared tuple -/
theorem new_tup {a : Addr} {ds : List D} {vs : List V} (ok : Ok K c B H S σ) (n : H a = none) (r : RepDs K B ds vs) (k : Kp (.sh (.tup ds)) S) (post : Post K c B H S F σ Kp Q) : Q (.ref a) (upd H a (.tup vs)) := by
  obtain ⟨ok1, t1⟩ := ok.share1 (o := .tup vs) n
  refine post _ S _ _ _ k ok1 ((t1.wide (G := F)).perm fun b hb => ?_) ?_
  · rcases List.mem_append.mp hb with z | z
    · exact List.mem_append_left _ z
    · simp [footP] at z
  · unfold RepP RepD
    exact ⟨a, vs, rfl, SqT.of upd_same, r.mono t1.sub⟩
end
section
variable {X : Cx} {c : Ct} {Ke : KE} {es : List Expr} {f : WA} {pos : Pos}
theorem i_lst (h : PA X es (tA X.K c Ke f)) : PE X (.List es pos) (tE X.K c Ke (wLst f)) := by
  refine wkE (pe_lst h) ?_
  rintro σ H Q ⟨S, B, Kp, ok, hf, post⟩
  refine ⟨S, B, _, ok, hf, fun ps S1 vs B1 H1 h1 ok1 t1 r1 => ?_⟩
  obtain ⟨i1, i2, i3, i4⟩ := pT_reps r1
  refine ⟨?_, fun p hp => ?_⟩
  · rw [i4]; exact Nat.le_trans h1.1 (by decide)
  · exact new_lst ok1 (ok.tr.trans t1) hp i1 i2 (fun b hb => ⟨(i3 b hb).1, (i3 b hb).2.2⟩) (h1.2 p) (post_after t1 post)
theorem i_tup {k} (h : PA X es (tA X.K c Ke f)) : PE X (.Tuple es k pos) (tE X.K c Ke (wTup f)) := by
  refine wkE (pe_tup h) ?_
  rintro σ H Q ⟨S, B, Kp, ok, hf, post⟩
  refine ⟨S, B, _, ok, hf, fun ps S1 vs B1 H1 h1 ok1 t1 r1 => ?_⟩
  obtain ⟨i1, i2, i3, i4⟩ := pT_reps r1
  obtain ⟨ds, e, h2⟩ := optK_some h1.2
  refine ⟨?_, fun p hp => ?_⟩
  · rw [i4]; exact Nat.le_trans h1.1 (by decide)
  · exact new_tup ok1 hp (shDs_reps r1 e) h2 (post_after t1 post)
end

/-! ### rows that are read: children, leaves -/
inductive Sk where
  | l | t | q
def kids (S : List T) : P → Option (Sk × List T)
  | .sh (.lst ds) => some (.l, ds.map .sh)
  | .sh (.tup ds) => some (.t, ds.map .sh)
  | .sh (.sq ds) => some (.q, ds.map .sh)
  | .br (.lst ds) => some (.l, ds.map brT)
  | .br (.tup ds) => some (.t, ds.map brT)
  | .br (.sq ds) => some (.q, ds.map brT)
  | .ow (.lst _ ts) => some (.l, ts)
  | .at i q => match node S i q with
    | some (.lst _ ts) => some (.l, ts)
    | _ => none
  | _ => none
def SkOk (K : PySem.W.Frag) (H : Hp) (a : Addr) (ws : List V) : Sk → Prop
  | .l => H a = some (.lst ws)
  | .t => SqT K H a ws
  | .q => SqL K H a ws
theorem RepDs.shs {K : PySem.W.Frag} {R B H : Hp} : ∀ {ds : List D} {ws : List V}, RepDs K B ds ws → RepTs K R B H (ds.map .sh) ws
  | [], _, h => by unfold RepDs at h; subst h; unfold RepTs; rfl
  | d :: ds, _, h => by
    unfold RepDs at h
    obtain ⟨w, r, rfl, h1, h2⟩ := h
    rw [List.map_cons]; unfold RepTs
    exact ⟨w, r, rfl, by unfold RepT; exact h1, RepDs.shs h2⟩
theorem RepDs.brs {K : PySem.W.Frag} {R B H : Hp} : ∀ {ds : List D} {ws : List V}, RepDs K R ds ws → RepTs K R B H (ds.map brT) ws
  | [], _, h => by unfold RepDs at h; subst h; unfold RepTs; rfl
  | d :: ds, _, h => by
    unfold RepDs at h
    obtain ⟨w, r, rfl, h1, h2⟩ := h
    rw [List.map_cons]; unfold RepTs
    exact ⟨w, r, rfl, brT_rep h1, RepDs.brs h2⟩
section
variable {K : PySem.W.Frag} {c : Ct} {B H B' H' : Hp} {S S' : List T} {F : List Addr} {σ : L2.St} {Kp : KP} {Q : VK}
theorem kids_rep {p : P} {v : V} {k : Sk} {ts : List T} (rep : Rep K c.R B H S σ) (r : RepP K c.R B H S p v) (e : kids S p = some (k, ts)) : ∃ a ws, v = .ref a ∧ SkOk K H a ws k ∧ RepTs K c.R B H ts ws := by
  cases p with
  | sh d =>
    cases d <;> simp only [kids] at e <;> first | (cases e; done) | skip
    all_goals
      cases e
      unfold RepP RepD at r
      obtain ⟨a, ws, rfl, h1, h2⟩ := r
      first
        | exact ⟨a, ws, rfl, rep.bh a _ h1, h2.shs⟩
        | exact ⟨a, ws, rfl, rep.bh.t h1, h2.shs⟩
        | exact ⟨a, ws, rfl, rep.bh.l h1, h2.shs⟩
  | br d =>
    cases d <;> simp only [kids] at e <;> first | (cases e; done) | skip
    all_goals
      cases e
      unfold RepP RepD at r
      obtain ⟨a, ws, rfl, h1, h2⟩ := r
      first
        | exact ⟨a, ws, rfl, rep.rh a _ h1, h2.brs⟩
        | exact ⟨a, ws, rfl, rep.rh.t h1, h2.brs⟩
        | exact ⟨a, ws, rfl, rep.rh.l h1, h2.brs⟩
  | ow t =>
    cases t <;> simp only [kids] at e <;> first | (cases e; done) | skip
    cases e
    unfold RepP at r
    have r1 := r.1
    unfold RepT at r1
    obtain ⟨rfl, ws, h1, h2⟩ := r1
    exact ⟨_, ws, rfl, h1, h2⟩
  | «at» i q =>
    unfold RepP at r
    obtain ⟨t, a, en, ea, rfl⟩ := r
    simp only [kids, en] at e
    cases t <;> first | (cases e; done) | skip
    cases e
    have r1 := rep.node en rfl
    unfold RepT at r1
    obtain ⟨_, ws, h1, h2⟩ := r1
    cases ea
    exact ⟨_, ws, rfl, h1, h2⟩
def leaf : T → Bool
  | .sh _ => true
  | .br _ => true
  | _ => false
theorem leaf_foot : ∀ {ts : List T}, ts.all leaf = true → feet ts = []
  | [], _ => by simp [feet]
  | t :: ts, h => by
    simp only [List.all_cons, Bool.and_eq_true] at h
    have := leaf_foot h.2
    cases t <;> first | (simp [leaf] at h; done) | (simp [feet, foot, this])
theorem leaf_rep {R : Hp} : ∀ {ts : List T} {ws : List V}, ts.all leaf = true → RepTs K R B H ts ws → Sub B B' → RepTs K R B' H' ts ws := fun {ts ws} h r s => r.mono s fun a o ha _ => by
  rw [leaf_foot h] at ha; simp at ha
/-- all children shared (or flat) -/
def tD : T → Option D
  | .sh d => some d
  | .br d => if flatD d = true then some d else none
  | _ => none
def tDs : List T → Option (List D)
  | [] => some []
  | t :: ts => (tD t).bind fun d => (tDs ts).map fun ds => d :: ds
theorem tDs_rep {R : Hp} : ∀ {ts : List T} {ws : List V} {ds : List D}, tDs ts = some ds → RepTs K R B H ts ws → RepDs K B ds ws
  | [], _, _, e, h => by cases e; unfold RepTs at h; subst h; unfold RepDs; rfl
  | t :: ts, _, ds, e, h => by
    simp only [tDs] at e
    cases e1 : tD t with
    | none => rw [e1] at e; cases e
    | some d =>
      rw [e1] at e
      have e : (tDs ts).map (fun ds => d :: ds) = some ds := e
      cases e2 : tDs ts with
      | none => rw [e2] at e; cases e
      | some ds' =>
        rw [e2] at e
        have e : d :: ds' = ds := Option.some.inj e
        subst e
        unfold RepTs at h
        obtain ⟨w, r, rfl, h1, h2⟩ := h
        unfold RepDs
        refine ⟨w, r, rfl, ?_, tDs_rep e2 h2⟩
        cases t <;> simp only [tD] at e1 <;> first | (cases e1; done) | skip
        · cases e1; unfold RepT at h1; exact h1
        · split at e1
          · rename_i hf; cases e1; unfold RepT at h1; exact flat_any hf h1
          · cases e1
end
end SL

set_option Elab.async false
set_option linter.all false
set_option maxRecDepth 100000
set_option maxHeartbeats 4000000
/-! SL7: built-in functions, list operators, slices, methods of lists. -/
namespace SL
open PySem PySem.Spec PyProof.Rows L2

/-! ### rows of ints, of bools -/
def tInt : T → Option Int
  | .sh (.int i) => some i
  | _ => none
def tInts : List T → Option (List Int)
  | [] => some []
  | t :: ts => (tInt t).bind fun i => (tInts ts).map fun is => i :: is
def tBl : T → Option Bool
  | .sh (.bl i) => some i
  | _ => none
def tBls : List T → Option (List Bool)
  | [] => some []
  | t :: ts => (tBl t).bind fun i => (tBls ts).map fun is => i :: is
abbrev ish (ns : List Int) : List T := ns.map fun i => .sh (.int i)
abbrev iD (ns : List Int) : List D := ns.map .int
theorem tInts_ish : ∀ ns : List Int, tInts (ish ns) = some ns
  | [] => rfl
  | n :: ns => by
    show (some n).bind (fun i => (tInts (ish ns)).map fun is => i :: is) = _
    rw [tInts_ish ns]; rfl
theorem shs_iD (ns : List Int) : (iD ns).map T.sh = ish ns := by simp [iD, ish]
theorem brs_iD (ns : List Int) : (iD ns).map brT = ish ns := by
  simp only [iD, ish, List.map_map]
  congr 1
theorem bind_map_some {α β : Type} {o : Option α} {p : Option (List β)} {f : α → β} {l : List β} (h : (o.bind fun i => p.map fun is => f i :: is) = some l) : ∃ a r, o = some a ∧ p = some r ∧ l = f a :: r := by
  cases o with
  | none => cases h
  | some a =>
    cases p with
    | none => cases h
    | some r => exact ⟨a, r, rfl, rfl, (Option.some.inj h).symm⟩
theorem tInts_rep {K : PySem.W.Frag} {R B H : Hp} : ∀ {ts : List T} {ws : List V} {ns : List Int}, tInts ts = some ns → RepTs K R B H ts ws → ws = ns.map V.int ∧ ts = ish ns
  | [], _, _, e, h => by cases e; unfold RepTs at h; subst h; exact ⟨rfl, rfl⟩
  | t :: ts, _, ns, e, h => by
    obtain ⟨i, r, e1, e2, rfl⟩ := bind_map_some (f := id) e
    unfold RepTs at h
    obtain ⟨w, ws, rfl, h1, h2⟩ := h
    obtain ⟨i1, i2⟩ := tInts_rep e2 h2
    cases t <;> simp only [tInt] at e1 <;> first | (cases e1; done) | skip
    rename_i d
    cases d <;> simp only [tInt] at e1 <;> first | (cases e1; done) | skip
    cases e1
    unfold RepT RepD at h1
    subst h1
    exact ⟨by rw [i1]; rfl, by rw [i2]; rfl⟩
theorem tBls_rep {K : PySem.W.Frag} {R B H : Hp} : ∀ {ts : List T} {ws : List V} {ns : List Bool}, tBls ts = some ns → RepTs K R B H ts ws → ws = ns.map V.bl
  | [], _, _, e, h => by cases e; unfold RepTs at h; subst h; rfl
  | t :: ts, _, ns, e, h => by
    obtain ⟨i, r, e1, e2, rfl⟩ := bind_map_some (f := id) e
    unfold RepTs at h
    obtain ⟨w, ws, rfl, h1, h2⟩ := h
    have i1 := tBls_rep e2 h2
    cases t <;> simp only [tBl] at e1 <;> first | (cases e1; done) | skip
    rename_i d
    cases d <;> simp only [tBl] at e1 <;> first | (cases e1; done) | skip
    cases e1
    unfold RepT RepD at h1
    subst h1
    rw [i1]; rfl
def isRow : Sk → Bool
  | .t => false
  | _ => true
theorem SkOk.row {K : PySem.W.Frag} {H : Hp} {a : Addr} {ws : List V} {k : Sk} (h : SkOk K H a ws k) (e : isRow k = true) : SqL K H a ws := by
  cases k with
  | l => exact SqL.of h
  | q => exact h
  | t => cases e
theorem SkOk.any {K : PySem.W.Frag} {H : Hp} {a : Addr} {ws : List V} {k : Sk} (h : SkOk K H a ws k) : SqL K H a ws ∨ SqT K H a ws := by
  cases k with
  | l => exact .inl (SqL.of h)
  | q => exact .inl h
  | t => exact .inr h

/-! ### built-in functions -/
def wLen : OA := fun S ps Kp => match ps with
  | [p] => match pk S p with
    | .str x => x.length ≤ 1000000 ∧ Kp (.sh (.int x.length)) S
    | _ => optK (kids S p) fun kt => Kp (.sh (.int kt.2.length)) S
  | _ => False
def wListOf : OA := fun S ps Kp => match ps with
  | [p] => optK (kids S p) fun kt => kt.2.all leaf = true ∧ ∀ a, Kp (.ow (.lst a kt.2)) S
  | _ => False
def wTupOf : OA := fun S ps Kp => match ps with
  | [p] => optK (kids S p) fun kt => match kt.1 with
    | .t => Kp p S
    | _ => optK (tDs kt.2) fun ds => Kp (.sh (.tup ds)) S
  | _ => False
def wSum : OA := fun S ps Kp => match ps with
  | [p] => optK (kids S p) fun kt => isRow kt.1 = true ∧ optK (tInts kt.2) fun ns => Kp (.sh (.int ns.sum)) S
  | _ => False
def wMaxL : OA := fun S ps Kp => match ps with
  | [p] => optK (kids S p) fun kt => isRow kt.1 = true ∧ optK (tInts kt.2) fun ns => 0 < ns.length ∧ ∀ m, m ∈ ns → (∀ y, y ∈ ns → y ≤ m) → Kp (.sh (.int m)) S
  | _ => False
def wMinL : OA := fun S ps Kp => match ps with
  | [p] => optK (kids S p) fun kt => isRow kt.1 = true ∧ optK (tInts kt.2) fun ns => 0 < ns.length ∧ ∀ m, m ∈ ns → (∀ y, y ∈ ns → m ≤ y) → Kp (.sh (.int m)) S
  | _ => False
def wMax2 : OA := fun S ps Kp => match ps with
  | [p, q] => match pk S p, pk S q with
    | .int i, .int j => Kp (.sh (.int (max i j))) S
    | _, _ => False
  | _ => False
def wMin2 : OA := fun S ps Kp => match ps with
  | [p, q] => match pk S p, pk S q with
    | .int i, .int j => Kp (.sh (.int (min i j))) S
    | _, _ => False
  | _ => False
def wAbs : OA := fun S ps Kp => match ps with
  | [p] => match pk S p with
    | .int i => Kp (.sh (.int (if i < 0 then -i else i))) S
    | _ => False
  | _ => False
def wIntOf : OA := fun S ps Kp => match ps with
  | [p] => match pk S p with
    | .int i => Kp (.sh (.int i)) S
    | .bl b => Kp (.sh (.int (if b then 1 else 0))) S
    | _ => False
  | _ => False
def wAny : OA := fun S ps Kp => match ps with
  | [p] => optK (kids S p) fun kt => isRow kt.1 = true ∧ optK (tBls kt.2) fun bs => Kp (.sh (.bl (bs.any id))) S
  | _ => False
def wAll : OA := fun S ps Kp => match ps with
  | [p] => optK (kids S p) fun kt => isRow kt.1 = true ∧ optK (tBls kt.2) fun bs => Kp (.sh (.bl (bs.all id))) S
  | _ => False
/-- the ints in order -/
def sortI (ns : List Int) : List Int := ns.mergeSort (fun a b => decide (a ≤ b))
theorem sortI_perm (ns : List Int) : (sortI ns).Perm ns := List.mergeSort_perm ns _
theorem sortI_sorted (ns : List Int) : (sortI ns).Pairwise (· ≤ ·) := by
  have h := List.pairwise_mergeSort (le := fun a b : Int => decide (a ≤ b)) (fun a b c h1 h2 => by simp only [decide_eq_true_eq] at *; omega) (fun a b => by simp only [Bool.or_eq_true, decide_eq_true_eq]; omega) ns
  exact h.imp fun h => of_decide_eq_true h
theorem sorted_uniq : ∀ {a b : List Int}, a.Perm b → a.Pairwise (· ≤ ·) → b.Pairwise (· ≤ ·) → a = b := fun {a b} p h1 h2 =>
  p.eq_of_pairwise (fun x y _ _ h3 h4 => Int.le_antisymm h3 h4) h1 h2
def wSortI : OA := fun S ps Kp => match ps with
  | [p] => optK (kids S p) fun kt => isRow kt.1 = true ∧ optK (tInts kt.2) fun ns => ∀ a, Kp (.ow (.lst a (ish (sortI ns)))) S
  | _ => False
section
variable {K : PySem.W.Frag} {R B H : Hp} {S : List T}
theorem reps1 {p : P} {vs : List V} (h : RepPs K R B H S [p] vs) : ∃ v, vs = [v] ∧ RepP K R B H S p v := by
  cases h with
  | cons r d t => cases t; exact ⟨_, rfl, r⟩
theorem reps2 {p q : P} {vs : List V} (h : RepPs K R B H S [p, q] vs) : ∃ v w, vs = [v, w] ∧ RepP K R B H S p v ∧ RepP K R B H S q w := by
  cases h with
  | cons r d t =>
    cases t with
    | cons r2 d2 t2 => cases t2; exact ⟨_, _, rfl, r, r2⟩
theorem ish_feet (ns : List Int) : feet (ish ns) = [] := leaf_foot (by simp [ish, leaf])
theorem ish_rep (ns : List Int) : RepTs K R B H (ish ns) (ns.map V.int) := by
  induction ns with
  | nil => unfold ish RepTs; rfl
  | cons n ns ih =>
    show RepTs K R B H (.sh (.int n) :: ish ns) (.int n :: ns.map V.int)
    unfold RepTs
    exact ⟨_, _, rfl, by unfold RepT RepD; rfl, ih⟩
end
theorem new_leaf {K : PySem.W.Frag} {c : Ct} {B H : Hp} {S : List T} {F : List Addr} {σ : L2.St} {Kp : KP} {Q : VK} {a : Addr} {ts : List T} {vs : List V} (ok : Ok K c B H S σ) (tr0 : Tr c.B0 c.H0 c.F0 B H (feet S ++ F)) (n : H a = none) (r : RepTs K c.R B H ts vs)
    (hl : ts.all leaf = true) (k : Kp (.ow (.lst a ts)) S) (post : Post K c B H S F σ Kp Q) : Q (.ref a) (upd H a (.lst vs)) :=
  new_lst ok tr0 n r (by rw [leaf_foot hl]; exact List.nodup_nil) (fun b hb => by rw [leaf_foot hl] at hb; simp at hb) k post
section
variable {X : Cx} {c : Ct} {Ke : KE} {a b e : Expr} {es : List Expr} {f h : WE} {fa : WA} {pos p0 : Pos} {x : Str}
/-- a built-in function by its name -/
theorem i_callB {id : String} {r : List V → Hp → VK → Prop} {g : OA} (hc : CallR X (.builtin id) r) (hg : OpA X.K r g) (hgl : Gl X x) (hm : X.mg x = none) (hv : bootBuiltins x = some (.builtin id)) (ha : PA X (e :: es) (tA X.K c Ke fa))
    (hn : x ≠ "__name__" := by decide) (hdb : (x == ("__debug__" : Str)) = false := by decide) (he : starEach (e :: es) X.env = (false, eval e X.env) :: starEach es X.env := by rfl) (hpl : (backTo pos (starEach es X.env)).any (·.1) = false := by rfl) :
    PE X (.Call (.Name x p0) (e :: es) [] pos) (tE X.K c Ke (wCB g fa)) := wkE (pe_callB hc hgl hm hv ha hn hdb he hpl) (tCB_of hg)
theorem i_callT {T : String} {r : List V → Hp → VK → Prop} {g : OA} (hc : CallR X (.type T) r) (hg : OpA X.K r g) (hgl : Gl X x) (hm : X.mg x = none) (hv : bootBuiltins x = some (.type T)) (ha : PA X (e :: es) (tA X.K c Ke fa))
    (hn : x ≠ "__name__" := by decide) (hdb : (x == ("__debug__" : Str)) = false := by decide) (he : starEach (e :: es) X.env = (false, eval e X.env) :: starEach es X.env := by rfl) (hpl : (backTo pos (starEach es X.env)).any (·.1) = false := by rfl) :
    PE X (.Call (.Name x p0) (e :: es) [] pos) (tE X.K c Ke (wCB g fa)) := wkE (pe_callTy hc hgl hm hv ha hn hdb he hpl) (tCB_of hg)
end
section
variable {K : PySem.W.Frag} {X : Cx}
theorem oa1 {g : P → Prop} {ps : List P} (h : match ps with
    | [p] => g p
    | _ => False) : ∃ p, ps = [p] ∧ g p := by
  match ps, h with
  | [p], h => exact ⟨p, rfl, h⟩
theorem oa2 {g : P → P → Prop} {ps : List P} (h : match ps with
    | [p, q] => g p q
    | _ => False) : ∃ p q, ps = [p, q] ∧ g p q := by
  match ps, h with
  | [p, q], h => exact ⟨p, q, rfl, h⟩
theorem opa_len : OpA K (fun xs H Q => ∃ x n, xs = [x] ∧ LenV K x H n ∧ Q (.int n) H) wLen := by
  intro c B H S σ ps vs Kp Q ok tr0 rs h post
  obtain ⟨p, rfl, h⟩ := oa1 h
  obtain ⟨v, rfl, r⟩ := reps1 rs
  have row : optK (kids S p) (fun kt => Kp (.sh (.int kt.2.length)) S) → ∃ x n, [v] = [x] ∧ LenV K x H n ∧ Q (.int n) H := fun h => by
    obtain ⟨⟨k, ts⟩, e, h⟩ := optK_some h
    obtain ⟨a, ws, rfl, h1, h2⟩ := kids_rep ok.rep r e
    have hl := h2.len
    refine ⟨_, ws.length, rfl, ?_, ?_⟩
    · rcases h1.any with z | z
      · exact .inl ⟨ws, z, rfl⟩
      · exact .inr ⟨ws, z, rfl⟩
    · rw [hl]; exact post.flat ok (flat_int _) h
  have h : (match pk S p with
    | .str x => x.length ≤ 1000000 ∧ Kp (.sh (.int x.length)) S
    | _ => optK (kids S p) fun kt => Kp (.sh (.int kt.2.length)) S) := h
  generalize e : pk S p = d at h
  cases d <;> first | exact row h | skip
  rename_i x
  exact ⟨_, x.length, rfl, by rw [pk_str ok.rep r e]; exact ⟨Nat.le_trans h.1 (by decide), rfl⟩, post.flat ok (flat_int _) h.2⟩
theorem opa_list : OpA K (fun xs H Q => ∃ p ys, xs = [.ref p] ∧ (SqL K H p ys ∨ SqT K H p ys) ∧ ∀ l, H l = none → Q (.ref l) (upd H l (.lst ys))) wListOf := by
  intro c B H S σ ps vs Kp Q ok tr0 rs h post
  obtain ⟨p, rfl, h⟩ := oa1 h
  obtain ⟨v, rfl, r⟩ := reps1 rs
  obtain ⟨⟨k, ts⟩, e, hl, h⟩ := optK_some h
  obtain ⟨a, ws, rfl, h1, h2⟩ := kids_rep ok.rep r e
  exact ⟨a, ws, rfl, h1.any, fun l n => new_leaf ok tr0 n h2 hl (h l) post⟩
theorem opa_tuple : OpA K (fun xs H Q => ∃ p ys, xs = [.ref p] ∧ ((SqL K H p ys ∧ ∀ l, H l = none → Q (.ref l) (upd H l (.tup ys))) ∨ (SqT K H p ys ∧ Q (.ref p) H))) wTupOf := by
  intro c B H S σ ps vs Kp Q ok tr0 rs h post
  obtain ⟨p, rfl, h⟩ := oa1 h
  obtain ⟨v, rfl, r⟩ := reps1 rs
  obtain ⟨⟨k, ts⟩, e, h⟩ := optK_some h
  obtain ⟨a, ws, rfl, h1, h2⟩ := kids_rep ok.rep r e
  cases k with
  | t => exact ⟨a, ws, rfl, .inr ⟨h1, post.here ok h r fun a ha => by simp [feetP, ha]⟩⟩
  | l =>
    obtain ⟨ds, e2, h⟩ := optK_some h
    exact ⟨a, ws, rfl, .inl ⟨SqL.of h1, fun l n => new_tup ok n (tDs_rep e2 h2) h post⟩⟩
  | q =>
    obtain ⟨ds, e2, h⟩ := optK_some h
    exact ⟨a, ws, rfl, .inl ⟨h1, fun l n => new_tup ok n (tDs_rep e2 h2) h post⟩⟩
theorem opa_sum : OpA K (rSum K) wSum := by
  intro c B H S σ ps vs Kp Q ok tr0 rs h post
  obtain ⟨p, rfl, h⟩ := oa1 h
  obtain ⟨v, rfl, r⟩ := reps1 rs
  obtain ⟨⟨k, ts⟩, e, hr, h⟩ := optK_some h
  obtain ⟨a, ws, rfl, h1, h2⟩ := kids_rep ok.rep r e
  obtain ⟨ns, e2, h⟩ := optK_some h
  have e3 := (tInts_rep e2 h2).1
  subst e3
  exact ⟨a, ns, rfl, h1.row hr, post.flat ok (flat_int _) h⟩
theorem opa_max : OpA K (rMax K) wMaxL := by
  intro c B H S σ ps vs Kp Q ok tr0 rs h post
  obtain ⟨p, rfl, h⟩ := oa1 h
  obtain ⟨v, rfl, r⟩ := reps1 rs
  obtain ⟨⟨k, ts⟩, e, hr, h⟩ := optK_some h
  obtain ⟨a, ws, rfl, h1, h2⟩ := kids_rep ok.rep r e
  obtain ⟨ns, e2, hp, h⟩ := optK_some h
  have e3 := (tInts_rep e2 h2).1
  subst e3
  exact ⟨a, ns, rfl, h1.row hr, hp, fun m q1 q2 => post.flat ok (flat_int _) (h m q1 q2)⟩
theorem opa_min : OpA K (rMin K) wMinL := by
  intro c B H S σ ps vs Kp Q ok tr0 rs h post
  obtain ⟨p, rfl, h⟩ := oa1 h
  obtain ⟨v, rfl, r⟩ := reps1 rs
  obtain ⟨⟨k, ts⟩, e, hr, h⟩ := optK_some h
  obtain ⟨a, ws, rfl, h1, h2⟩ := kids_rep ok.rep r e
  obtain ⟨ns, e2, hp, h⟩ := optK_some h
  have e3 := (tInts_rep e2 h2).1
  subst e3
  exact ⟨a, ns, rfl, h1.row hr, hp, fun m q1 q2 => post.flat ok (flat_int _) (h m q1 q2)⟩
theorem opa_any : OpA K (rAny K) wAny := by
  intro c B H S σ ps vs Kp Q ok tr0 rs h post
  obtain ⟨p, rfl, h⟩ := oa1 h
  obtain ⟨v, rfl, r⟩ := reps1 rs
  obtain ⟨⟨k, ts⟩, e, hr, h⟩ := optK_some h
  obtain ⟨a, ws, rfl, h1, h2⟩ := kids_rep ok.rep r e
  obtain ⟨ns, e2, h⟩ := optK_some h
  have e3 := tBls_rep e2 h2
  subst e3
  exact ⟨a, ns, rfl, h1.row hr, post.flat ok (flat_bl _) h⟩
theorem opa_all : OpA K (rAll K) wAll := by
  intro c B H S σ ps vs Kp Q ok tr0 rs h post
  obtain ⟨p, rfl, h⟩ := oa1 h
  obtain ⟨v, rfl, r⟩ := reps1 rs
  obtain ⟨⟨k, ts⟩, e, hr, h⟩ := optK_some h
  obtain ⟨a, ws, rfl, h1, h2⟩ := kids_rep ok.rep r e
  obtain ⟨ns, e2, h⟩ := optK_some h
  have e3 := tBls_rep e2 h2
  subst e3
  exact ⟨a, ns, rfl, h1.row hr, post.flat ok (flat_bl _) h⟩
theorem opa_sorted : OpA K (rSortedI K) wSortI := by
  intro c B H S σ ps vs Kp Q ok tr0 rs h post
  obtain ⟨p, rfl, h⟩ := oa1 h
  obtain ⟨v, rfl, r⟩ := reps1 rs
  obtain ⟨⟨k, ts⟩, e, hr, h⟩ := optK_some h
  obtain ⟨a, ws, rfl, h1, h2⟩ := kids_rep ok.rep r e
  obtain ⟨ns, e2, h⟩ := optK_some h
  have e3 := (tInts_rep e2 h2).1
  subst e3
  refine ⟨a, ns, rfl, h1.row hr, fun ns' p' q1 q2 n => ?_⟩
  have e4 : ns' = sortI ns := sorted_uniq (q1.trans (sortI_perm ns).symm) q2 (sortI_sorted ns)
  subst e4
  exact new_leaf ok tr0 n (ish_rep _) (by simp [ish, leaf]) (h p') post
theorem opa_max2 : OpA K (fun xs H Q => ∃ i j, xs = [.int i, .int j] ∧ Q (.int (if j > i then j else i)) H) wMax2 := by
  intro c B H S σ ps vs Kp Q ok tr0 rs h post
  obtain ⟨p, q, rfl, h⟩ := oa2 h
  obtain ⟨v, w, rfl, r1, r2⟩ := reps2 rs
  obtain ⟨i, j, e1, e2, h⟩ := two_ints (α := True) h
  refine ⟨i, j, by rw [pk_int ok.rep r1 e1, pk_int ok.rep r2 e2], ?_⟩
  rw [show (if j > i then j else i) = max i j by rw [Int.max_def]; split <;> split <;> omega]
  exact post.flat ok (flat_int _) h
theorem opa_min2 : OpA K (fun xs H Q => ∃ i j, xs = [.int i, .int j] ∧ Q (.int (if j < i then j else i)) H) wMin2 := by
  intro c B H S σ ps vs Kp Q ok tr0 rs h post
  obtain ⟨p, q, rfl, h⟩ := oa2 h
  obtain ⟨v, w, rfl, r1, r2⟩ := reps2 rs
  obtain ⟨i, j, e1, e2, h⟩ := two_ints (α := True) h
  refine ⟨i, j, by rw [pk_int ok.rep r1 e1, pk_int ok.rep r2 e2], ?_⟩
  rw [show (if j < i then j else i) = min i j by rw [Int.min_def]; split <;> split <;> omega]
  exact post.flat ok (flat_int _) h
theorem opa_abs : OpA K (fun xs H Q => ∃ i, xs = [.int i] ∧ Q (.int (if i < 0 then -i else i)) H) wAbs := by
  intro c B H S σ ps vs Kp Q ok tr0 rs h post
  obtain ⟨p, rfl, hh⟩ := oa1 h
  clear h
  obtain ⟨v, rfl, r⟩ := reps1 rs
  generalize e : pk S p = d at hh
  cases d <;> first | exact hh.elim | skip
  exact ⟨_, by rw [pk_int ok.rep r e], post.flat ok (flat_int _) hh⟩
theorem opa_int : OpA K (fun xs H Q => (∃ i, xs = [.int i] ∧ Q (.int i) H) ∨ ∃ k, xs = [.bl k] ∧ Q (.int (if k then 1 else 0)) H) wIntOf := by
  intro c B H S σ ps vs Kp Q ok tr0 rs h post
  obtain ⟨p, rfl, hh⟩ := oa1 h
  clear h
  obtain ⟨v, rfl, r⟩ := reps1 rs
  generalize e : pk S p = d at hh
  cases d <;> first | exact hh.elim | skip
  · exact .inr ⟨_, by rw [pk_bl ok.rep r e], post.flat ok (flat_int _) hh⟩
  · exact .inl ⟨_, by rw [pk_int ok.rep r e], post.flat ok (flat_int _) hh⟩
end

/-! ### isinstance of a built-in class -/
def tyD : D → Option String
  | .non => some "NoneType"
  | .bl _ => some "bool"
  | .int _ => some "int"
  | .str _ => some "str"
  | .lst _ => some "list"
  | .tup _ => some "tuple"
  | .sq _ => none
  | _ => none
theorem tyD_of {K : PySem.W.Frag} {H : Hp} {d : D} {v : V} {t : String} (e : tyD d = some t) (r : RepD K H d v) : TyX K H v (.type t) := by
  cases d <;> simp only [tyD] at e <;> first | (cases e; done) | skip
  all_goals (cases e; unfold RepD at r)
  · subst r; exact .base .non
  · subst r; exact .base (.bl _)
  · subst r; exact .base (.int _)
  · subst r; exact .base (.str _)
  · obtain ⟨a, ws, rfl, h1, _⟩ := r; exact .base (.lst h1)
  · obtain ⟨a, ws, rfl, h1, _⟩ := r
    rcases h1 with (h1 | ⟨o, h1⟩) | ⟨o, its, n, h1, h2, _⟩
    · exact .base (.tup h1)
    · exact .fTuple h1
    · exact .kTuple h1 h2
/-- isinstance(e, T) -/
def wIsi (T : String) (f : WE) : WE := fun S Kp Ke => f S (fun p S1 => optK (tyD (pk S1 p)) fun t => optK (kitB t T) fun b => Kp (.sh (.bl b)) S1) Ke
section
variable {X : Cx} {c : Ct} {Ke : KE} {e : Expr} {f : WE} {pos p0 p1 : Pos} {x n : Str}
theorem i_isi {T : String} (he : PE X e (tE X.K c Ke f)) (hgi : Gl X "isinstance") (hmi : X.mg "isinstance" = none) (hgn : Gl X n) (hmn : X.mg n = none) (hvn : bootBuiltins n = some (.type T)) (hnn : n ≠ "__name__" := by decide) (hdn : (n == ("__debug__" : Str)) = false := by decide)
    (h1 : starEach [e, .Name n p1] X.env = (false, eval e X.env) :: starEach [.Name n p1] X.env := by rfl) (hpl : (backTo pos (starEach [.Name n p1] X.env)).any (·.1) = false := by rfl) :
    PE X (.Call (.Name "isinstance" p0) [e, .Name n p1] [] pos) (tE X.K c Ke (wIsi T f)) := by
  have hC : PE X (.Name n p1) (tC (.ty T)) := pe_bltn hgn hmn hvn rfl hnn hdn
  refine wkE (pe_callB call_isi hgi hmi (by decide +kernel) (pa_cons he (pa_cons hC pa_nil rfl) h1) (by decide) (by decide) h1 hpl) ?_
  rintro σ H Q ⟨S, B, Kp, ok, hf, post⟩
  refine ⟨S, B, _, ok, hf, fun p S1 v B1 H1 h1 ok1 t1 r1 => ?_⟩
  obtain ⟨t, e1, h1⟩ := optK_some h1
  obtain ⟨b, e2, h1⟩ := optK_some h1
  exact ⟨v, .ty T, .type t, .type T, b, rfl, .ty T, tyD_of e1 (ok1.rep.pk r1), kit_ty e2, (post_after t1.nil post).flat ok1 (flat_bl _) h1⟩
end
end SL

set_option Elab.async false
set_option linter.all false
set_option maxRecDepth 100000
set_option maxHeartbeats 4000000
/-! SL8: statements, targets, loops. -/
namespace SL
open PySem PySem.Spec PyProof.Rows L2

structure KS where
  nx : List T → Prop
  rt : KP
  bk : List T → Prop
  ct : List T → Prop
  ex : KE
abbrev WS := List T → KS → Prop
def tS (K : PySem.W.Frag) (c : Ct) (Ke : KE) (w : WS) : TS := fun D σ H => ∃ S B k, Ok K c B H S σ ∧ w S k ∧ k.ex = Ke ∧
  (∀ S' σ' B' H', k.nx S' → Ok K c B' H' S' σ' → Sub B B' → D.nx σ' H') ∧ (∀ S' σ' B' H', k.bk S' → Ok K c B' H' S' σ' → Sub B B' → D.bk σ' H') ∧ (∀ S' σ' B' H', k.ct S' → Ok K c B' H' S' σ' → Sub B B' → D.ct σ' H') ∧
  (∀ p S' v σ' B' H', k.rt p S' → Ok K c B' H' S' σ' → Tr c.B0 c.H0 c.F0 B' H' (feet S' ++ footP p) → RepP K c.R B' H' S' p v → D.rt v H')
section
variable {X : Cx} {st : Stmt} {sts : List Stmt} {t t' : TS}
theorem wkS (h : PS X st t) (i : ∀ D σ H, t' D σ H → t D σ H) : PS X st t' := ⟨fun pins s σ H D I q => h.run pins s σ H D I (i D σ H q)⟩
theorem wkB (h : PSs X sts t) (i : ∀ D σ H, t' D σ H → t D σ H) : PSs X sts t' := ⟨fun pins s σ H D I q => h.run pins s σ H D I (i D σ H q)⟩
end

/-! ### slots -/
theorem Rep.setSlot {K : PySem.W.Frag} {R B H : Hp} {S : List T} {σ : L2.St} (r : Rep K R B H S σ) {i : Nat} {t : T} {v : V} (hv : t = .un ∨ RepT K R B H t v) (hn : (foot t).Nodup) (hf : ∀ a ∈ foot t, a ∉ feet S ∧ B a = none ∧ R a = none) :
    Rep K R B H (S.set i t) (σ.set i (some v)) ∧ ∀ a ∈ feet (S.set i t), a ∈ feet S ∨ a ∈ foot t := by
  have fin : ∀ a ∈ feet (S.set i t), a ∈ feet S ∨ a ∈ foot t := fun a ha => (feet_set_mem ha).symm
  refine ⟨⟨r.bh, r.rh, feet_set_nodup r.nd hn fun a ha hl => absurd hl (hf a ha).1, fun a ha => ?_, fun a ha => ?_, by rw [List.length_set, List.length_set]; exact r.len, fun j u e => ?_⟩, fin⟩
  · rcases fin a ha with q | q
    · exact r.bf a q
    · exact (hf a q).2.1
  · rcases fin a ha with q | q
    · exact r.rf a q
    · exact (hf a q).2.2
  · by_cases hj : i = j
    · subst hj
      by_cases hl : i < S.length
      · rw [List.getElem?_set_self hl] at e
        have e' : t = u := Option.some.inj e
        subst e'
        refine hv.imp id fun h => ⟨v, ?_, h⟩
        rw [List.getElem?_set_self (by rw [← r.len]; exact hl)]
      · rw [List.getElem?_eq_none_iff.mpr (by rw [List.length_set]; omega)] at e
        cases e
    · rw [List.getElem?_set_ne hj] at e
      refine (r.sl j u e).imp id fun ⟨w, e1, h⟩ => ⟨w, ?_, h⟩
      rw [List.getElem?_set_ne hj]; exact e1
/-- a slot forgotten -/
theorem Rep.forget {K : PySem.W.Frag} {R B H : Hp} {S : List T} {σ : L2.St} (r : Rep K R B H S σ) (i : Nat) : Rep K R B H (S.set i .un) σ ∧ ∀ a ∈ feet (S.set i .un), a ∈ feet S := by
  have fin : ∀ a ∈ feet (S.set i .un), a ∈ feet S := fun a ha => by
    rcases feet_set_mem ha with z | z
    · simp [foot] at z
    · exact z
  refine ⟨⟨r.bh, r.rh, feet_set_nodup r.nd (by simp [foot]) fun a ha _ => by simp [foot] at ha, fun a ha => r.bf a (fin a ha), fun a ha => r.rf a (fin a ha), by rw [List.length_set]; exact r.len, fun j u e => ?_⟩, fin⟩
  by_cases hj : i = j
  · subst hj
    by_cases hl : i < S.length
    · rw [List.getElem?_set_self hl] at e
      exact .inl (Option.some.inj e).symm
    · rw [List.getElem?_eq_none_iff.mpr (by rw [List.length_set]; omega)] at e
      cases e
  · rw [List.getElem?_set_ne hj] at e
    exact r.sl j u e
def fgt : List Nat → List T → List T
  | [], S => S
  | i :: is, S => fgt is (S.set i .un)
theorem Ok.fgt {K : PySem.W.Frag} {c : Ct} {B H : Hp} {σ : L2.St} : ∀ (is : List Nat) {S : List T}, Ok K c B H S σ → Ok K c B H (SL.fgt is S) σ
  | [], _, ok => ok
  | i :: is, S, ok => by
    obtain ⟨h1, h2⟩ := ok.rep.forget i
    exact Ok.fgt is ⟨h1, ok.tr.perm h2⟩

/-! ### targets -/
abbrev WG := P → List T → (List T → Prop) → Prop
abbrev WGs := List P → List T → (List T → Prop) → Prop
def sto (i : Nat) : WG := fun p S k => match p with
  | .sh d => k (S.set i (.sh d))
  | .br d => k (S.set i (.br d))
  | .ow t => k (S.set i t)
  | .at _ _ => False
/-- slots but those of ws are as they were -/
def Off (ws : List Nat) (σ σ' : L2.St) : Prop := σ'.length = σ.length ∧ ∀ j, j ∉ ws → σ'[j]? = σ[j]?
theorem Off.refl (ws : List Nat) (σ : L2.St) : Off ws σ σ := ⟨rfl, fun _ _ => rfl⟩
theorem Off.set (σ : L2.St) (i : Nat) (v : Option V) : Off [i] σ (σ.set i v) := ⟨List.length_set, fun j h => by
  rw [List.getElem?_set_ne (fun e => h (by simp [e]))]⟩
theorem Off.trans {ws ws' : List Nat} {σ σ1 σ2 : L2.St} (a : Off ws σ σ1) (b : Off ws' σ1 σ2) : Off (ws ++ ws') σ σ2 := ⟨b.1.trans a.1, fun j h => by
  rw [b.2 j fun z => h (List.mem_append_right _ z), a.2 j fun z => h (List.mem_append_left _ z)]⟩
def tGt (K : PySem.W.Frag) (c : Ct) (ws : List Nat) (g : WG) : TG := fun v σ H Q => ∃ S B p k, Ok K c B H S σ ∧ Tr c.B0 c.H0 c.F0 B H (feet S ++ footP p) ∧ RepP K c.R B H S p v ∧ g p S k ∧ ∀ S' σ' B', k S' → Ok K c B' H S' σ' → B' = B → (∀ a ∈ feet S', a ∈ feet S ∨ a ∈ footP p) → Off ws σ σ' → Q σ' H
def tGts (K : PySem.W.Frag) (c : Ct) (ws : List Nat) (g : WGs) : TGs := fun vs σ H Q => ∃ S B ps k, Ok K c B H S σ ∧ feetP ps = [] ∧ (∀ p ∈ ps, ∀ i q, p ≠ .at i q) ∧ RepPs K c.R B H S ps vs ∧ g ps S k ∧ ∀ S' σ' B', k S' → Ok K c B' H S' σ' → B' = B → (∀ a ∈ feet S', a ∈ feet S) → Off ws σ σ' → Q σ' H
theorem sto_ok {K : PySem.W.Frag} {c : Ct} {B H : Hp} {S : List T} {σ : L2.St} {p : P} {v : V} {i : Nat} {k : List T → Prop} {Q : L2.St → Hp → Prop} (ok : Ok K c B H S σ) (tr : Tr c.B0 c.H0 c.F0 B H (feet S ++ footP p)) (r : RepP K c.R B H S p v)
    (h : sto i p S k) (q : ∀ S' σ' B', k S' → Ok K c B' H S' σ' → B' = B → (∀ a ∈ feet S', a ∈ feet S ∨ a ∈ footP p) → Off [i] σ σ' → Q σ' H) : Q (σ.set i (some v)) H := by
  have go : ∀ t : T, RepT K c.R B H t v → (foot t).Nodup → (∀ a ∈ foot t, a ∈ footP p ∧ a ∉ feet S ∧ B a = none ∧ c.R a = none) → k (S.set i t) → Q (σ.set i (some v)) H := fun t h1 h2 h3 hk => by
    obtain ⟨r1, r2⟩ := ok.rep.setSlot (i := i) (.inr h1) h2 fun a ha => (h3 a ha).2
    have fin : ∀ a ∈ feet (S.set i t), a ∈ feet S ∨ a ∈ footP p := fun a ha => (r2 a ha).imp id fun z => (h3 a z).1
    exact q _ _ B hk ⟨r1, tr.perm fun a ha => List.mem_append.mpr (fin a ha)⟩ rfl fin (Off.set σ i (some v))
  cases p with
  | sh d => exact go (.sh d) (by unfold RepT; exact r) (by simp [foot]) (fun a ha => by simp [foot] at ha) h
  | br d => exact go (.br d) (by unfold RepT; exact r) (by simp [foot]) (fun a ha => by simp [foot] at ha) h
  | ow t => exact go t r.1 r.2.1 (fun a ha => ⟨ha, r.2.2 a ha⟩) h
  | «at» j q => exact h.elim
def wUnp (n : Nat) (g : WGs) : WG := fun p S k => optK (kids S p) fun kt => match kt.1 with
  | .t => kt.2.length = n ∧ optK (tPs kt.2) fun ps => g ps S k
  | _ => False
where tPs : List T → Option (List P)
  | [] => some []
  | .sh d :: ts => (tPs ts).map fun ps => .sh d :: ps
  | .br d :: ts => (tPs ts).map fun ps => .br d :: ps
  | _ => none
theorem tPs_rep {K : PySem.W.Frag} {R B H : Hp} {S : List T} : ∀ {ts : List T} {ws : List V} {ps : List P}, wUnp.tPs ts = some ps → RepTs K R B H ts ws → RepPs K R B H S ps ws ∧ feetP ps = [] ∧ ∀ p ∈ ps, ∀ i q, p ≠ .at i q
  | [], _, _, e, h => by cases e; unfold RepTs at h; subst h; exact ⟨.nil, rfl, fun p hp => by simp at hp⟩
  | t :: ts, _, ps, e, h => by
    unfold RepTs at h
    obtain ⟨w, r, rfl, h1, h2⟩ := h
    cases t <;> simp only [wUnp.tPs] at e <;> first | (cases e; done) | skip
    all_goals
      cases e2 : wUnp.tPs ts with
      | none => rw [e2] at e; cases e
      | some ps' =>
        rw [e2] at e
        cases e
        obtain ⟨i1, i2, i3⟩ := tPs_rep (S := S) e2 h2
        unfold RepT at h1
        refine ⟨.cons h1 (fun a ha => by simp [footP] at ha) i1, by simp [feetP, footP, i2], fun p hp => ?_⟩
        rcases List.mem_cons.mp hp with rfl | hp
        · intro i q z; cases z
        · exact i3 p hp
def gsNil : WGs := fun ps S k => ps = [] ∧ k S
def gsCons (g : WG) (h : WGs) : WGs := fun ps S k => match ps with
  | p :: r => g p S fun S1 => h r S1 k
  | [] => False
section
variable {X : Cx} {c : Ct} {g : WG} {gs : WGs} {pos : Pos}
theorem i_gname (i : Nat) {x : Str} (h : PG X (.Name x pos) (gName i)) : PG X (.Name x pos) (tGt X.K c [i] (sto i)) := by
  refine ⟨fun pins s σ H v u Q I r q => h.run pins s σ H v u Q I r ?_⟩
  obtain ⟨S, B, p, k, ok, tr, rp, hg, hk⟩ := q
  exact sto_ok ok tr rp hg hk
theorem i_gsnil : PGs X [] (tGts X.K c [] gsNil) := by
  refine ⟨fun pins s σ H vs us Q I r q => pgs_nil.run pins s σ H vs us Q I r ?_⟩
  obtain ⟨S, B, ps, k, ok, _, _, rp, ⟨e, hg⟩, hk⟩ := q
  subst e
  cases rp
  exact ⟨rfl, hk _ _ B hg ok rfl (fun a h => h) (Off.refl _ _)⟩
theorem i_gscons {e : Expr} {es : List Expr} {ws ws' : List Nat} (h1 : PG X e (tGt X.K c ws g)) (h2 : PGs X es (tGts X.K c ws' gs))
    (hs : (assignEach (e :: es) X.env).map (·.2) = assign e X.env :: (assignEach es X.env).map (·.2) := by rfl) : PGs X (e :: es) (tGts X.K c (ws ++ ws') (gsCons g gs)) := by
  refine ⟨fun pins s σ H vs us Q I r q => (pgs_cons h1 h2 hs).run pins s σ H vs us Q I r ?_⟩
  obtain ⟨S, B, ps, k, ok, hf, hna, rp, hg, hk⟩ := q
  cases rp with
  | nil => exact hg.elim
  | @cons p v ps vs r1 d rs =>
    refine ⟨v, vs, rfl, ?_⟩
    have hfp : footP p = [] ∧ feetP ps = [] := by
      simp only [feetP] at hf
      exact List.append_eq_nil_iff.mp hf
    refine ⟨S, B, p, fun S1 => gs ps S1 k, ok, by rw [hfp.1]; exact ok.tr.nil', r1, hg, fun S' σ' B' hk' ok' eB hfe hoff => ?_⟩
    subst eB
    have hfe : ∀ a ∈ feet S', a ∈ feet S := fun a ha => by
      rcases hfe a ha with z | z
      · exact z
      · rw [hfp.1] at z; simp at z
    have mv : ∀ {ps : List P} {vs : List V}, RepPs X.K c.R B' H S ps vs → feetP ps = [] → (∀ p ∈ ps, ∀ i q, p ≠ .at i q) → RepPs X.K c.R B' H S' ps vs := by
      intro ps vs rs
      induction rs with
      | nil => intro _ _; exact .nil
      | @cons p v ps vs r d _ ih =>
        intro hf hna
        simp only [feetP] at hf
        obtain ⟨f1, f2⟩ := List.append_eq_nil_iff.mp hf
        refine .cons ?_ (fun a ha => by rw [f1] at ha; simp at ha) (ih f2 fun p hp => hna p (List.mem_cons_of_mem _ hp))
        cases p with
        | sh d0 => exact r
        | br d => exact r
        | ow t =>
          unfold RepP at r ⊢
          have f1 : foot t = [] := f1
          refine ⟨r.1, by rw [f1]; exact List.nodup_nil, fun a ha => by rw [f1] at ha; simp at ha⟩
        | «at» i q => exact absurd rfl (hna _ List.mem_cons_self i q)
    exact ⟨S', B', ps, k, ok', hfp.2, fun p hp => hna p (List.mem_cons_of_mem _ hp), mv rs hfp.2 fun p hp => hna p (List.mem_cons_of_mem _ hp), hk', fun S2 σ2 B2 hk2 ok2 eB2 hf2 hoff2 => hk S2 σ2 B2 hk2 ok2 eB2 (fun a ha => hfe a (hf2 a ha)) (hoff.trans hoff2)⟩
theorem i_gtup {es : List Expr} {k n : Nat} {ws : List Nat} (hc : X.calm = true) (h : PGs X es (tGts X.K c ws gs)) (hn : (assignEach es X.env).length = n := by rfl) (hst : (assignEach es X.env).findIdx? (·.1) = none := by rfl) : PG X (.Tuple es k pos) (tGt X.K c ws (wUnp n gs)) := by
  refine ⟨fun pins s σ H v u Q I r q => (pg_tup hc h hn hst).run pins s σ H v u Q I r ?_⟩
  obtain ⟨S, B, p, k, ok, tr, rp, hg, hk⟩ := q
  obtain ⟨⟨sk, ts⟩, e, hg⟩ := optK_some hg
  obtain ⟨a, us', rfl, h1, h2⟩ := kids_rep ok.rep rp e
  cases sk <;> first | exact hg.elim | skip
  obtain ⟨hl, hg⟩ := hg
  obtain ⟨ps, e2, hg⟩ := optK_some hg
  obtain ⟨i1, i2, i3⟩ := tPs_rep (S := S) e2 h2
  exact ⟨a, us', rfl, h1, by rw [h2.len]; exact hl, S, B, ps, k, ok, i2, i3, i1, hg, fun S' σ' B' h1 h2 h3 h4 h5 => hk S' σ' B' h1 h2 h3 (fun a ha => .inl (h4 a ha)) h5⟩
end

/-! ### plain statements -/
def wSkip : WS := fun S k => k.nx S
def wSeq (a b : WS) : WS := fun S k => a S { k with nx := fun S' => b S' k }
def wAsg (f : WE) (g : WG) : WS := fun S k => f S (fun p S1 => g p S1 k.nx) k.ex
def wDrop (f : WE) : WS := fun S k => f S (fun _ S1 => k.nx S1) k.ex
def wRet (f : WE) : WS := fun S k => f S k.rt k.ex
def wRetN : WS := fun S k => k.rt (.sh .non) S
def wIf (t : WT) (a b : WS) : WS := fun S k => t S (fun b0 S1 => if b0 = true then a S1 k else b S1 k) k.ex
def wBrk : WS := fun S k => k.bk S
def wCnt : WS := fun S k => k.ct S
def wFg (is : List Nat) (a : WS) : WS := fun S k => a S { k with nx := fun S' => k.nx (fgt is S'), ct := fun S' => k.ct (fgt is S') }
def wNever : WS := fun _ _ => False
section
variable {X : Cx} {c : Ct} {Ke : KE} {st : Stmt} {sts : List Stmt} {e : Expr} {f : WE} {g : WG} {t : WT} {a b : WS} {pos : Pos}
theorem i_snil : PSs X [] (tS X.K c Ke wSkip) := wkB pss_nil fun D σ H ⟨S, B, k, ok, h, _, n, _⟩ => n S σ B H h ok (Sub.refl B)
theorem i_pass : PS X (.Pass pos) (tS X.K c Ke wSkip) := wkS ps_pass fun D σ H ⟨S, B, k, ok, h, _, n, _⟩ => n S σ B H h ok (Sub.refl B)
theorem i_doc {x j pos'} : PS X (.Expr (.Constant (.str x) j pos) pos') (tS X.K c Ke wSkip) := wkS ps_doc fun D σ H ⟨S, B, k, ok, h, _, n, _⟩ => n S σ B H h ok (Sub.refl B)
theorem i_scons (h1 : PS X st (tS X.K c Ke a)) (h2 : PSs X sts (tS X.K c Ke b)) : PSs X (st :: sts) (tS X.K c Ke (wSeq a b)) := by
  refine wkB (pss_cons h1 h2) ?_
  rintro D σ H ⟨S, B, k, ok, h, rfl, n, bk, ct, rt⟩
  exact ⟨S, B, { k with nx := fun S' => b S' k }, ok, h, rfl, fun S' σ' B' H' h' ok' sb => ⟨S', B', k, ok', h', rfl, fun S2 σ2 B2 H2 h2 o2 s2 => n S2 σ2 B2 H2 h2 o2 (sb.trans s2), fun S2 σ2 B2 H2 h2 o2 s2 => bk S2 σ2 B2 H2 h2 o2 (sb.trans s2), fun S2 σ2 B2 H2 h2 o2 s2 => ct S2 σ2 B2 H2 h2 o2 (sb.trans s2), rt⟩, bk, ct, rt⟩
theorem i_sone (h1 : PS X st (tS X.K c Ke a)) : PSs X [st] (tS X.K c Ke a) := pss_one h1
theorem i_asg {tg : Expr} {ws : List Nat} (he : PE X e (tE X.K c Ke f)) (hg : PG X tg (tGt X.K c ws g)) (hs : swapsWithSole [tg] e pos.line X.env = pure false := by rfl) (hw : swappedStores [tg] e X.env = pure none := by rfl)
    (h1 : (assignEach [tg] X.env).map (·.2) = [assign tg X.env] := by rfl) : PS X (.Assign [tg] e pos) (tS X.K c Ke (wAsg f g)) := by
  refine wkS (ps_asg he hg hs hw h1) ?_
  rintro D σ H ⟨S, B, k, ok, h, rfl, n, bk, ct, rt⟩
  refine ⟨S, B, _, ok, h, fun p S1 v B1 H1 h1 ok1 t1 r1 => ?_⟩
  exact ⟨S1, B1, p, k.nx, ok1, ok.tr.trans t1.nil, r1, h1, fun S' σ' B' hk ok' eB _ _ => n S' σ' B' H1 hk ok' (by rw [eB]; exact t1.sub)⟩
theorem i_expr (he : PE X e (tE X.K c Ke f)) (hs : swapsWith e none pos.line X.env = pure false := by rfl) : PS X (.Expr e pos) (tS X.K c Ke (wDrop f)) := by
  refine wkS (ps_expr he hs) ?_
  rintro D σ H ⟨S, B, k, ok, h, rfl, n, bk, ct, rt⟩
  exact ⟨S, B, _, ok, h, fun p S1 v B1 H1 h1 ok1 t1 r1 => n S1 σ B1 H1 h1 ok1 t1.sub⟩
theorem i_ret (he : PE X e (tE X.K c Ke f)) : PS X (.Return (some e) pos) (tS X.K c Ke (wRet f)) := by
  refine wkS (ps_ret he) ?_
  rintro D σ H ⟨S, B, k, ok, h, rfl, n, bk, ct, rt⟩
  exact ⟨S, B, _, ok, h, fun p S1 v B1 H1 h1 ok1 t1 r1 => rt p S1 v σ B1 H1 h1 ok1 (ok.tr.trans t1.nil) r1⟩
theorem i_retN : PS X (.Return none pos) (tS X.K c Ke wRetN) := by
  refine wkS ps_retN ?_
  rintro D σ H ⟨S, B, k, ok, h, rfl, n, bk, ct, rt⟩
  exact rt (.sh .non) S .non σ B H h ok ok.tr.nil' (flat_non X.K B)
theorem i_brk : PS X (.Break pos) (tS X.K c Ke wBrk) := wkS ps_break fun D σ H ⟨S, B, k, ok, h, _, _, n, _⟩ => n S σ B H h ok (Sub.refl B)
theorem i_cnt : PS X (.Continue pos) (tS X.K c Ke wCnt) := wkS ps_continue fun D σ H ⟨S, B, k, ok, h, _, _, _, n, _⟩ => n S σ B H h ok (Sub.refl B)
theorem i_if {d : Expr} {xs ys : List Stmt} (hc : PT X d (tT X.K c Ke t)) (ha : PSs X xs (tS X.K c Ke a)) (hb : PSs X ys (tS X.K c Ke b)) : PS X (.If d xs ys pos) (tS X.K c Ke (wIf t a b)) := by
  refine wkS (ps_if hc ha hb) ?_
  rintro D σ H ⟨S, B, k, ok, h, rfl, n, bk, ct, rt⟩
  refine ⟨S, B, _, ok, h, fun b0 S1 B1 H1 h1 ok1 t1 => ?_⟩
  cases b0 with
  | true => exact ⟨S1, B1, k, ok1, h1, rfl, fun S2 σ2 B2 H2 h2 o2 s2 => n S2 σ2 B2 H2 h2 o2 (t1.sub.trans s2), fun S2 σ2 B2 H2 h2 o2 s2 => bk S2 σ2 B2 H2 h2 o2 (t1.sub.trans s2), fun S2 σ2 B2 H2 h2 o2 s2 => ct S2 σ2 B2 H2 h2 o2 (t1.sub.trans s2), rt⟩
  | false => exact ⟨S1, B1, k, ok1, h1, rfl, fun S2 σ2 B2 H2 h2 o2 s2 => n S2 σ2 B2 H2 h2 o2 (t1.sub.trans s2), fun S2 σ2 B2 H2 h2 o2 s2 => bk S2 σ2 B2 H2 h2 o2 (t1.sub.trans s2), fun S2 σ2 B2 H2 h2 o2 s2 => ct S2 σ2 B2 H2 h2 o2 (t1.sub.trans s2), rt⟩
theorem i_fg (is : List Nat) (h : PSs X sts (tS X.K c Ke a)) : PSs X sts (tS X.K c Ke (wFg is a)) := by
  refine wkB h ?_
  rintro D σ H ⟨S, B, k, ok, hw, rfl, n, bk, ct, rt⟩
  exact ⟨S, B, { k with nx := fun S' => k.nx (fgt is S'), ct := fun S' => k.ct (fgt is S') }, ok, hw, rfl, fun S' σ' B' H' h' ok' => n _ σ' B' H' h' (ok'.fgt is), bk, fun S' σ' B' H' h' ok' => ct _ σ' B' H' h' (ok'.fgt is), rt⟩
theorem i_never : PS X st (tS X.K c Ke wNever) := wkS ps_never fun D σ H ⟨S, B, k, ok, h, _⟩ => h
theorem i_nevers : PSs X sts (tS X.K c Ke wNever) := wkB pss_never fun D σ H ⟨S, B, k, ok, h, _⟩ => h
end

/-! ### loops -/
inductive Itm where
  | one (p : P) | many (ps : List P)
abbrev WI := List T → (List Itm → List T → Prop) → KE → Prop
def lfP : P → Bool
  | .sh _ => true
  | .br _ => true
  | _ => false
def RepI (K : PySem.W.Frag) (R B H : Hp) : Itm → V → Hp → Prop
  | .one p, x, H' => H' = H ∧ lfP p = true ∧ RepP K R B H [] p x
  | .many ps, x, H' => ∃ t vs, x = .ref t ∧ H t = none ∧ H' = upd H t (.tup vs) ∧ (∀ p ∈ ps, lfP p = true) ∧ RepPs K R B H [] ps vs
def ItS (K : PySem.W.Frag) (R B1 : Hp) (J : It) (its : List Itm) : Prop := ∀ B H, Sub B1 B → Sub B H → Sub R H →
  J.stop its.length H ∧ ∀ (i : Nat) (it : Itm), its[i]? = some it → J.go i H ∧ ∀ x H', J.yld i H x H' → RepI K R B H it x H'
def tI (K : PySem.W.Frag) (c : Ct) (Ke : KE) (f : WI) : TI := fun σ H Q => ∃ S B k, Ok K c B H S σ ∧ f S k Ke ∧ ∀ its S' B' H' J, k its S' → Ok K c B' H' S' σ → Tr B H (feet S) B' H' (feet S') → ItS K c.R B' J its → Q J H'
/-- a target takes an item -/
def itm (g : WG) : Itm → List T → (List T → Prop) → Prop
  | .one p, S, k => g p S k
  | .many ps, S, k => optK (shDs ps) fun ds => g (.sh (.tup ds)) S k
def lup (g : WG) (body : WS) (k : KS) : List Itm → List T → Prop
  | [], S => k.nx S
  | it :: its, S => itm g it S fun S1 => body S1 { k with nx := lup g body k its, ct := lup g body k its, bk := k.nx }
def wFor (fi : WI) (g : WG) (body : WS) : WS := fun S k => fi S (fun its S1 => lup g body k its S1) k.ex
def wWhile (t : WT) (body : WS) : WS := fun S k => ∃ I : Nat → List T → Prop, (∃ m, I m S) ∧ ∀ m S, I m S → t S (fun b S1 => if b = true then body S1 { k with nx := fun S2 => ∃ m', m' < m ∧ I m' S2, ct := fun S2 => ∃ m', m' < m ∧ I m' S2, bk := k.nx } else k.nx S1) k.ex
section
variable {X : Cx} {c : Ct} {Ke : KE} {st : Stmt} {sts : List Stmt} {e tg : Expr} {f : WE} {fi : WI} {g : WG} {t : WT} {a b : WS} {pos : Pos}
theorem RepP.leafS {K : PySem.W.Frag} {R B H : Hp} {S S' : List T} {p : P} {v : V} (h : lfP p = true) (r : RepP K R B H S p v) : RepP K R B H S' p v := by
  cases p <;> first | (simp [lfP] at h; done) | exact r
theorem leafs {K : PySem.W.Frag} {R B H : Hp} {S S' : List T} {ps : List P} {vs : List V} (hl : ∀ p ∈ ps, lfP p = true) (r : RepPs K R B H S ps vs) : RepPs K R B H S' ps vs := by
  induction r with
  | nil => exact .nil
  | @cons p v ps vs r d _ ih => exact .cons (r.leafS (hl p List.mem_cons_self)) d (ih fun p hp => hl p (List.mem_cons_of_mem _ hp))
theorem lf_foot {p : P} (h : lfP p = true) : footP p = [] := by
  cases p <;> first | (simp [lfP] at h; done) | rfl
theorem i_for {iter : Expr} {ws : List Nat} (hp : PassesOwn (model X.prog X.w) X.A X.env X.xe) (hc : X.calm = true) (hi : PI X tg iter (tI X.K c Ke fi)) (hg : PG X tg (tGt X.K c ws g)) (hb : PSs X sts (tS X.K c Ke b))
    (hs : ∀ v, foldedSetIterable iter X.env v = pure v := by intro _; rfl) : PS X (.For tg iter sts [] pos) (tS X.K c Ke (wFor fi g b)) := by
  refine wkS (ps_for hp hc hi hg hb hs) ?_
  rintro D σ H ⟨S, B, k, ok, h, rfl, n, bk, ct, rt⟩
  refine ⟨S, B, _, ok, h, fun its S1 B1 H1 J h1 ok1 trI hJ => ?_⟩
  have sb := trI.sub
  refine ⟨fun i m σ H => m = its.length - i ∧ i ≤ its.length ∧ ∃ S B2, Ok X.K c B2 H S σ ∧ Sub B1 B2 ∧ lup g b k (its.drop i) S, ⟨its.length, by simp, Nat.zero_le _, S1, B1, ok1, Sub.refl B1, by simpa using h1⟩, ?_⟩
  rintro i m σ2 H2 ⟨rfl, hil, S2, B2, ok2, sb2, h2⟩
  obtain ⟨hstop, hgo⟩ := hJ B2 H2 sb2 ok2.rep.bh ok2.rep.rh
  by_cases hi : i < its.length
  · right
    have e : its[i]? = some its[i] := List.getElem?_eq_getElem hi
    obtain ⟨h3, h4⟩ := hgo i _ e
    rw [List.drop_eq_getElem_cons hi] at h2
    refine ⟨h3, fun σ' H' => ∃ S B3, Ok X.K c B3 H' S σ' ∧ Sub B1 B3 ∧ lup g b k (its.drop (i + 1)) S, fun σ' H' ⟨S, B3, o1, o2, o3⟩ => ⟨its.length - (i + 1), by omega, rfl, hi, S, B3, o1, o2, o3⟩, fun x H' hy => ?_⟩
    have hr := h4 x H' hy
    have body : ∀ {p : P} {B3 : Hp}, Ok X.K c B3 H' S2 σ2 → Sub B2 B3 → lfP p = true → RepP X.K c.R B3 H' S2 p x → g p S2 (fun S1 => b S1 { k with nx := lup g b k (its.drop (i + 1)), ct := lup g b k (its.drop (i + 1)), bk := k.nx }) →
        tGt X.K c ws g x σ2 H' fun σ2 H2 => tS X.K c k.ex b { D with nx := fun σ' H' => ∃ S B3, Ok X.K c B3 H' S σ' ∧ Sub B1 B3 ∧ lup g b k (its.drop (i + 1)) S, ct := fun σ' H' => ∃ S B3, Ok X.K c B3 H' S σ' ∧ Sub B1 B3 ∧ lup g b k (its.drop (i + 1)) S, bk := D.nx } σ2 H2 := by
      intro p B3 o3 s3 hl rp hg'
      refine ⟨S2, B3, p, _, o3, by rw [lf_foot hl]; exact o3.tr.nil', rp, hg', fun S4 σ4 B4 hk ok4 eB _ _ => ?_⟩
      subst eB
      have s14 : Sub B1 B4 := sb2.trans s3
      exact ⟨S4, B4, _, ok4, hk, rfl, fun S5 σ5 B5 H5 h5 o5 s5 => ⟨S5, B5, o5, s14.trans s5, h5⟩, fun S5 σ5 B5 H5 h5 o5 s5 => n S5 σ5 B5 H5 h5 o5 (sb.trans (s14.trans s5)), fun S5 σ5 B5 H5 h5 o5 s5 => ⟨S5, B5, o5, s14.trans s5, h5⟩, rt⟩
    generalize its[i] = it at hr h2
    cases it with
    | one p =>
      obtain ⟨rfl, hl, rp⟩ := hr
      exact body ok2 (Sub.refl B2) hl (rp.leafS hl) h2
    | many ps =>
      obtain ⟨t, vs, rfl, nt, rfl, hl, rp⟩ := hr
      obtain ⟨ds, e2, h2⟩ := optK_some h2
      have rp' : RepPs X.K c.R B2 H2 S2 ps vs := leafs hl rp
      obtain ⟨o3, t3⟩ := ok2.share1 (o := .tup vs) nt
      refine body (p := .sh (.tup ds)) o3 t3.sub rfl ?_ h2
      unfold RepP RepD
      exact ⟨t, vs, rfl, SqT.of upd_same, (shDs_reps rp' e2).mono t3.sub⟩
  · left
    have e : i = its.length := by omega
    subst e
    refine ⟨hstop, n S2 σ2 B2 H2 ?_ ok2 (sb.trans sb2)⟩
    rw [List.drop_length] at h2
    exact h2
theorem i_while (hp : PassesOwn (model X.prog X.w) X.A X.env X.xe) (ht : PT X e (tT X.K c Ke t)) (hb : PSs X sts (tS X.K c Ke b)) : PS X (.While e sts [] pos) (tS X.K c Ke (wWhile t b)) := by
  refine wkS (ps_while hp ht hb) ?_
  rintro D σ H ⟨S, B, k, ok, ⟨I, ⟨m, h0⟩, h⟩, rfl, n, bk, ct, rt⟩
  refine ⟨fun m σ' H' => ∃ S' B', Ok X.K c B' H' S' σ' ∧ Sub B B' ∧ I m S', ⟨m, S, B, ok, Sub.refl B, h0⟩, ?_⟩
  rintro m σ2 H2 ⟨S2, B2, ok2, sb2, hI⟩
  refine ⟨S2, B2, _, ok2, h m S2 hI, fun b0 S3 B3 H3 h3 ok3 t3 => ?_⟩
  have s3 := sb2.trans t3.sub
  cases b0 with
  | false => exact n S3 σ2 B3 H3 h3 ok3 s3
  | true =>
    refine ⟨fun σ' H' => ∃ m', m' < m ∧ ∃ S' B', Ok X.K c B' H' S' σ' ∧ Sub B B' ∧ I m' S', fun _ _ z => z, ?_⟩
    exact ⟨S3, B3, _, ok3, h3, rfl, fun S5 σ5 B5 H5 ⟨m', hm, h5⟩ o5 s5 => ⟨m', hm, S5, B5, o5, s3.trans s5, h5⟩, fun S5 σ5 B5 H5 h5 o5 s5 => n S5 σ5 B5 H5 h5 o5 (s3.trans s5), fun S5 σ5 B5 H5 ⟨m', hm, h5⟩ o5 s5 => ⟨m', hm, S5, B5, o5, s3.trans s5, h5⟩, rt⟩
end
end SL

set_option Elab.async false
set_option linter.all false
set_option maxRecDepth 100000
set_option maxHeartbeats 4000000
/-! SL9: what is walked; comprehensions. -/
namespace SL
open PySem PySem.Spec PyProof.Rows L2

/-! ### what is walked -/
/-- a list or a tuple, shared or borrowed -/
def wItS (f : WE) : WI := fun S Ki Ke => f S (fun p S1 => match p with
  | .sh (.lst ds) => Ki (ds.map fun d => .one (.sh d)) S1
  | .sh (.tup ds) => Ki (ds.map fun d => .one (.sh d)) S1
  | .sh (.sq ds) => Ki (ds.map fun d => .one (.sh d)) S1
  | .br (.lst ds) => Ki (ds.map fun d => .one (brP d)) S1
  | .br (.tup ds) => Ki (ds.map fun d => .one (brP d)) S1
  | .br (.sq ds) => Ki (ds.map fun d => .one (brP d)) S1
  | _ => False) Ke
abbrev oneI (i : Int) : Itm := .one (.sh (.int i))
def rangeI (lo : Int) (n : Nat) : List Int := (List.range n).map fun (k : Nat) => lo + (k : Int)
def wRange1 (f : WA) : WI := fun S Ki Ke => f S (fun ps S1 => match ps with
  | [p] => match pk S1 p with
    | .int j => -(2 ^ 62) ≤ j ∧ j < 2 ^ 62 ∧ Ki ((rangeI 0 j.toNat).map oneI) S1
    | _ => False
  | _ => False) Ke
def wRange2 (f : WA) : WI := fun S Ki Ke => f S (fun ps S1 => match ps with
  | [p, q] => match pk S1 p, pk S1 q with
    | .int i, .int j => (-(2 ^ 62) ≤ i ∧ i < 2 ^ 62 ∧ -(2 ^ 62) ≤ j ∧ j < 2 ^ 62) ∧ Ki ((rangeI i (j - i).toNat).map oneI) S1
    | _, _ => False
  | _ => False) Ke
def iSeq (K : PySem.W.Frag) (tl : TE) : TI := fun σ H R => tl σ H fun x H1 => ∃ a, x = .ref a ∧ (((∃ xs, SqL K H1 a xs) ∧ R (Itl K a) H1) ∨ ((∃ xs, SqT K H1 a xs) ∧ R (Itt K a) H1))
section
variable {X : Cx} {tg : Expr}
theorem pi_seq {l : Expr} {tl : TE} (hl : PE X l tl) : PI X tg l (iSeq X.K tl) := by
  refine ⟨fun pins s σ H R I h => ?_⟩
  refine thn (hl.run pins s σ H _ I h) fun v s1 ⟨x, H1, I1, r1, q1⟩ => ?_
  obtain ⟨a, e, q1⟩ := q1
  subst e
  cases r1
  rcases q1 with ⟨⟨xs, hq⟩, q⟩ | ⟨⟨xs, hq⟩, q⟩
  · obtain ⟨its, rv, p, hz⟩ := I1.list hq
    refine wpAny_pyIter_list p.isList ?_
    refine ⟨s1.heap.objs.size, [s1.heap.objs.size], _, _, H1, rfl, I1.kept (t' := s1.toks) fun b o e => Heap.get?_push_of_some _ e, turn_list a _, ⟨_, Heap.get?_push_size _ rfl, rfl, rfl⟩, fun b hb => ?_, q⟩
    have e : b = s1.heap.objs.size := by simpa using hb
    subst e
    exact I1.fpOk (Nat.le_refl _) (I1.hok.fresh (Nat.le_refl _))
  · obtain ⟨its, rv, p, hz⟩ := I1.tuple hq
    refine wpAny_pyIter_tuple (show s1.heap.IsTuple a its.toArray from p) ?_
    refine ⟨s1.heap.objs.size, [s1.heap.objs.size], _, _, H1, rfl, I1.kept (t' := s1.toks) fun b o e => Heap.get?_push_of_some _ e, turn_tuple a _, ⟨_, Heap.get?_push_size _ rfl, rfl, rfl⟩, fun b hb => ?_, q⟩
    have e : b = s1.heap.objs.size := by simpa using hb
    subst e
    exact I1.fpOk (Nat.le_refl _) (I1.hok.fresh (Nat.le_refl _))
variable {c : Ct} {Ke : KE} {e : Expr} {f : WE} {fa : WA} {pos p0 : Pos}
theorem wkI {iter : Expr} {w w' : TI} (h : PI X tg iter w) (i : ∀ σ H Q, w' σ H Q → w σ H Q) : PI X tg iter w' := ⟨fun pins s σ H R I q => h.run pins s σ H R I (i σ H R q)⟩
theorem its_list {K : PySem.W.Frag} {R B1 : Hp} {a : Addr} {ws : List V} {ps : List P} (hs : ∀ B H, Sub B1 B → Sub B H → Sub R H → SqL K H a ws)
    (hl : ws.length = ps.length) (hr : ∀ B H, Sub B1 B → ∀ (i : Nat) (p : P), ps[i]? = some p → lfP p = true ∧ ∃ w, ws[i]? = some w ∧ RepP K R B H [] p w) : ItS K R B1 (Itl K a) (ps.map .one) := by
  intro B H sb bh rh
  have h := hs B H sb bh rh
  refine ⟨⟨ws, h, by rw [List.length_map]; omega⟩, fun i it e => ?_⟩
  rw [List.getElem?_map] at e
  cases e1 : ps[i]? with
  | none => rw [e1] at e; cases e
  | some p =>
    rw [e1] at e
    cases e
    obtain ⟨h1, w, h2, h3⟩ := hr B H sb i p e1
    refine ⟨⟨ws, w, h, h2⟩, fun x H' hy => ?_⟩
    obtain ⟨rfl, hy⟩ := hy
    have hx : w = x := Option.some.inj (h2.symm.trans (hy ws h))
    subst hx
    exact ⟨rfl, h1, h3⟩
theorem its_tup {K : PySem.W.Frag} {R B1 : Hp} {a : Addr} {ws : List V} {ps : List P} (hs : ∀ B H, Sub B1 B → Sub B H → Sub R H → SqT K H a ws)
    (hl : ws.length = ps.length) (hr : ∀ B H, Sub B1 B → ∀ (i : Nat) (p : P), ps[i]? = some p → lfP p = true ∧ ∃ w, ws[i]? = some w ∧ RepP K R B H [] p w) : ItS K R B1 (Itt K a) (ps.map .one) := by
  intro B H sb bh rh
  have h := hs B H sb bh rh
  refine ⟨⟨ws, h, by rw [List.length_map]; omega⟩, fun i it e => ?_⟩
  rw [List.getElem?_map] at e
  cases e1 : ps[i]? with
  | none => rw [e1] at e; cases e
  | some p =>
    rw [e1] at e
    cases e
    obtain ⟨h1, w, h2, h3⟩ := hr B H sb i p e1
    refine ⟨⟨ws, w, h, h2⟩, fun x H' hy => ?_⟩
    obtain ⟨rfl, hy⟩ := hy
    have hx : w = x := Option.some.inj (h2.symm.trans (hy ws h))
    subst hx
    exact ⟨rfl, h1, h3⟩
theorem lf_brP (d : D) : lfP (brP d) = true := by
  unfold brP; split <;> rfl
theorem items_sh {K : PySem.W.Frag} {R B1 : Hp} {ds : List D} {ws : List V} (h : RepDs K B1 ds ws) : ∀ B H, Sub B1 B → ∀ (i : Nat) (p : P), (ds.map P.sh)[i]? = some p → lfP p = true ∧ ∃ w, ws[i]? = some w ∧ RepP K R B H [] p w := by
  intro B H sb i p e
  rw [List.getElem?_map] at e
  cases e1 : ds[i]? with
  | none => rw [e1] at e; cases e
  | some d =>
    rw [e1] at e; cases e
    obtain ⟨w, h1, h2⟩ := h.get e1
    exact ⟨rfl, w, h1, h2.mono sb⟩
theorem items_br {K : PySem.W.Frag} {R B1 : Hp} {ds : List D} {ws : List V} (h : RepDs K R ds ws) : ∀ B H, Sub B1 B → ∀ (i : Nat) (p : P), (ds.map brP)[i]? = some p → lfP p = true ∧ ∃ w, ws[i]? = some w ∧ RepP K R B H [] p w := by
  intro B H sb i p e
  rw [List.getElem?_map] at e
  cases e1 : ds[i]? with
  | none => rw [e1] at e; cases e
  | some d =>
    rw [e1] at e; cases e
    obtain ⟨w, h1, h2⟩ := h.get e1
    exact ⟨lf_brP d, w, h1, brP_rep h2⟩
theorem i_pseq (he : PE X e (tE X.K c Ke f)) : PI X tg e (tI X.K c Ke (wItS f)) := by
  refine wkI (pi_seq he) ?_
  rintro σ H Q ⟨S, B, k, ok, h, hk⟩
  refine ⟨S, B, _, ok, h, fun p S1 v B1 H1 h1 ok1 t1 r1 => ?_⟩
  have mm : ∀ {α β : Type} (g : D → P) (ds : List D), ds.map (fun d => Itm.one (g d)) = (ds.map g).map .one := fun g ds => by rw [List.map_map]; rfl
  cases p with
  | sh d =>
    cases d <;> first | exact h1.elim | skip
    all_goals
      unfold RepP RepD at r1
      obtain ⟨a, ws, rfl, h2, h3⟩ := r1
      refine ⟨a, rfl, ?_⟩
    · refine .inl ⟨⟨ws, SqL.of (ok1.rep.bh a _ h2)⟩, hk _ S1 B1 H1 _ h1 ok1 t1.nil.left ?_⟩
      rw [mm (α := Unit) (β := Unit)]
      exact its_list (fun B H s1 s2 s3 => SqL.of (s2 a _ (s1 a _ h2))) (by rw [List.length_map]; exact h3.len) (items_sh h3)
    · refine .inr ⟨⟨ws, ok1.rep.bh.t h2⟩, hk _ S1 B1 H1 _ h1 ok1 t1.nil.left ?_⟩
      rw [mm (α := Unit) (β := Unit)]
      exact its_tup (fun B H s1 s2 s3 => s2.t (s1.t h2)) (by rw [List.length_map]; exact h3.len) (items_sh h3)
    · refine .inl ⟨⟨ws, ok1.rep.bh.l h2⟩, hk _ S1 B1 H1 _ h1 ok1 t1.nil.left ?_⟩
      rw [mm (α := Unit) (β := Unit)]
      exact its_list (fun B H s1 s2 s3 => s2.l (s1.l h2)) (by rw [List.length_map]; exact h3.len) (items_sh h3)
  | br d =>
    cases d <;> first | exact h1.elim | skip
    all_goals
      unfold RepP RepD at r1
      obtain ⟨a, ws, rfl, h2, h3⟩ := r1
      refine ⟨a, rfl, ?_⟩
    · refine .inl ⟨⟨ws, SqL.of (ok1.rep.rh a _ h2)⟩, hk _ S1 B1 H1 _ h1 ok1 t1.nil.left ?_⟩
      rw [mm (α := Unit) (β := Unit)]
      exact its_list (fun B H s1 s2 s3 => SqL.of (s3 a _ h2)) (by rw [List.length_map]; exact h3.len) (items_br h3)
    · refine .inr ⟨⟨ws, ok1.rep.rh.t h2⟩, hk _ S1 B1 H1 _ h1 ok1 t1.nil.left ?_⟩
      rw [mm (α := Unit) (β := Unit)]
      exact its_tup (fun B H s1 s2 s3 => s3.t h2) (by rw [List.length_map]; exact h3.len) (items_br h3)
    · refine .inl ⟨⟨ws, ok1.rep.rh.l h2⟩, hk _ S1 B1 H1 _ h1 ok1 t1.nil.left ?_⟩
      rw [mm (α := Unit) (β := Unit)]
      exact its_list (fun B H s1 s2 s3 => s3.l h2) (by rw [List.length_map]; exact h3.len) (items_br h3)
  | ow t => exact h1.elim
  | «at» i q => exact h1.elim
theorem its_range {K : PySem.W.Frag} {R B1 : Hp} {lo : Int} {n : Nat} : ItS K R B1 (Itr lo n) ((rangeI lo n).map oneI) := by
  intro B H sb bh rh
  refine ⟨by show n ≤ _; simp [rangeI], fun i it e => ?_⟩
  simp only [rangeI, List.getElem?_map, List.map_map] at e
  by_cases hi : i < n
  · rw [List.getElem?_range hi] at e
    cases e
    refine ⟨hi, fun x H' hy => ?_⟩
    obtain ⟨rfl, rfl⟩ := hy
    exact ⟨rfl, rfl, flat_int _ K B⟩
  · rw [List.getElem?_eq_none_iff.mpr (by rw [List.length_range]; omega)] at e
    cases e
theorem i_range1 (hg : Gl X "range") (hm : X.mg "range" = none) (ha : PA X [e] (tA X.K c Ke fa)) (hs : starEach [e] X.env = [(false, eval e X.env)] := by rfl) : PI X tg (.Call (.Name "range" p0) [e] [] pos) (tI X.K c Ke (wRange1 fa)) := by
  refine wkI (pi_range1 hg hm ha hs) ?_
  rintro σ H Q ⟨S, B, k, ok, h, hk⟩
  refine ⟨S, B, _, ok, h, fun ps S1 vs B1 H1 h1 ok1 t1 r1 => ?_⟩
  obtain ⟨p, rfl, hh⟩ := oa1 h1
  obtain ⟨v, rfl, r⟩ := reps1 r1
  generalize e0 : pk S1 p = d at hh
  cases d <;> first | exact hh.elim | skip
  obtain ⟨q1, q2, hh⟩ := hh
  exact ⟨_, by rw [pk_int ok1.rep r e0], q1, q2, hk _ S1 B1 H1 _ hh ok1 t1.left its_range⟩
theorem i_range2 {e2 : Expr} (hg : Gl X "range") (hm : X.mg "range" = none) (ha : PA X [e, e2] (tA X.K c Ke fa)) (hs : starEach [e, e2] X.env = [(false, eval e X.env), (false, eval e2 X.env)] := by rfl) (hs2 : starEach [e2] X.env = [(false, eval e2 X.env)] := by rfl) :
    PI X tg (.Call (.Name "range" p0) [e, e2] [] pos) (tI X.K c Ke (wRange2 fa)) := by
  refine wkI (pi_range2 hg hm ha hs hs2) ?_
  rintro σ H Q ⟨S, B, k, ok, h, hk⟩
  refine ⟨S, B, _, ok, h, fun ps S1 vs B1 H1 h1 ok1 t1 r1 => ?_⟩
  obtain ⟨p, q, rfl, hh⟩ := oa2 h1
  obtain ⟨v, w, rfl, r, r'⟩ := reps2 r1
  obtain ⟨i, j, e1, e2, hb, hh⟩ := two_ints (α := True) hh
  exact ⟨i, j, by rw [pk_int ok1.rep r e1, pk_int ok1.rep r' e2], hb, hk _ S1 B1 H1 _ hh ok1 t1.left its_range⟩
end

/-! ### comprehensions -/
def noEx : KE := fun _ _ => False
def lcl (own : List Nat) (g : WG) (t : WT) (f : WE) : List Itm → List T → List T → (List T → List T → Prop) → Prop
  | [], S, acc, K => K acc S
  | it :: its, S, acc, K => itm g it S fun S1 => t S1 (fun b S2 => if b = true then f S2 (fun p S3 => acc.length < 1000000 ∧ lcl own g t f its (fgt own S3) (acc ++ [pT p]) K) noEx else lcl own g t f its (fgt own S2) acc K) noEx
def wLc (fi : WI) (own : List Nat) (g : WG) (t : WT) (f : WE) : WE := fun S Kp Ke => fi S (fun its S1 => lcl own g t f its (fgt own S1) [] (fun ts S2 => ∀ a, Kp (.ow (.lst a ts)) S2)) Ke
def wYes : WT := fun S Kb _ => Kb true S
/-- the list that grows -/
structure Acc (K : PySem.W.Frag) (R B H : Hp) (S : List T) (D : Addr) (acc : List T) (ws : List V) : Prop where
  at_ : H D = some (.lst ws)
  rep : RepTs K R B H acc ws
  nd : (feet acc).Nodup
  dn : D ∉ feet acc
  off : ∀ a ∈ D :: feet acc, a ∉ feet S ∧ B a = none ∧ R a = none
theorem Acc.mv {K : PySem.W.Frag} {R B H B' H' : Hp} {S S' : List T} {D : Addr} {acc : List T} {ws : List V} (h : Acc K R B H S D acc ws) {F : List Addr} (t : Tr B H (feet S) B' H' (feet S' ++ F)) : Acc K R B' H' S' D acc ws := by
  have hH : ∀ a ∈ D :: feet acc, H a ≠ none := fun a ha => by
    rcases List.mem_cons.mp ha with rfl | ha
    · rw [h.at_]; simp
    · exact feet_some h.rep ha
  refine ⟨t.keep D _ (h.off D List.mem_cons_self).1 h.at_, h.rep.mono t.sub fun a o ha e => t.keep a o (h.off a (List.mem_cons_of_mem _ ha)).1 e, h.nd, h.dn, fun a ha => ⟨fun z => ?_, ?_, (h.off a ha).2.2⟩⟩
  · rcases t.foot a (List.mem_append_left _ z) with q | q
    · exact (h.off a ha).1 q
    · exact hH a ha q
  · cases q : B' a with
    | none => rfl
    | some o =>
      rcases t.base a o q with z | z | z
      · rw [(h.off a ha).2.1] at z; cases z
      · exact absurd z (h.off a ha).1
      · exact absurd z (hH a ha)
theorem pT_rep {K : PySem.W.Frag} {R B H : Hp} {S : List T} {p : P} {v : V} (r : RepP K R B H S p v) : RepT K R B H (pT p) v ∧ foot (pT p) = footP p ∧ (footP p).Nodup := by
  cases p with
  | sh d => unfold RepP at r; exact ⟨by unfold pT RepT; exact r, rfl, by simp [footP]⟩
  | br d => unfold RepP at r; exact ⟨by unfold pT RepT; exact r, rfl, by simp [footP]⟩
  | ow t => unfold RepP at r; exact ⟨r.1, rfl, r.2.1⟩
  | «at» i q => exact ⟨by unfold pT RepT; trivial, by simp [pT, foot, footP], by simp [footP]⟩
theorem feet_one (t : T) : feet [t] = foot t := by simp [feet]
/-- an item put behind -/
theorem Acc.push {K : PySem.W.Frag} {R B H : Hp} {S : List T} {σ : L2.St} {D : Addr} {acc : List T} {ws : List V} {p : P} {v : V} (h : Acc K R B H S D acc ws) (rep : Rep K R B H S σ) (r : RepP K R B H S p v) (hd : ∀ a ∈ footP p, a ∉ D :: feet acc) :
    Acc K R B (upd H D (.lst (ws ++ [v]))) S D (acc ++ [pT p]) (ws ++ [v]) ∧ Rep K R B (upd H D (.lst (ws ++ [v]))) S σ := by
  obtain ⟨q1, q2, q3⟩ := pT_rep r
  obtain ⟨o1, o2, o3⟩ := h.off D List.mem_cons_self
  have ne : ∀ {a : Addr} {o : HO}, a ≠ D → H a = some o → upd H D (.lst (ws ++ [v])) a = some o := fun hne e => by rw [upd_ne hne]; exact e
  refine ⟨⟨upd_same, ?_, ?_, ?_, fun a ha => ?_⟩, ?_⟩
  · refine RepTs.append (h.rep.mono (Sub.refl B) fun a o ha e => ne (fun z => h.dn (z ▸ ha)) e) ?_
    unfold RepTs
    refine ⟨v, [], rfl, q1.mono (Sub.refl B) fun a o ha e => ne (fun z => hd a (q2 ▸ ha) (by simp [z])) e, by unfold RepTs; rfl⟩
  · rw [feet_append, feet_one, q2]
    refine List.nodup_append.mpr ⟨h.nd, q3, fun a ha b hb e => ?_⟩
    subst e
    exact hd a hb (List.mem_cons_of_mem _ ha)
  · rw [feet_append, feet_one, q2]
    intro z
    rcases List.mem_append.mp z with z | z
    · exact h.dn z
    · exact hd D z List.mem_cons_self
  · rw [feet_append, feet_one, q2] at ha
    rcases List.mem_cons.mp ha with rfl | ha
    · exact ⟨o1, o2, o3⟩
    · rcases List.mem_append.mp ha with z | z
      · exact h.off a (List.mem_cons_of_mem _ z)
      · exact (r.some z).2
  · refine ⟨fun a o e => ne (fun z => by rw [z, o2] at e; cases e) (rep.bh a o e), fun a o e => ne (fun z => by rw [z, o3] at e; cases e) (rep.rh a o e), rep.nd, rep.bf, rep.rf, rep.len, fun i t e => (rep.sl i t e).imp id fun ⟨w, e1, e2⟩ => ⟨w, e1, e2.mono (Sub.refl B) fun a o ha e => ne (fun z => o1 (z ▸ feet_mem ‹_› ha)) e⟩⟩
theorem wipe_off {σ σ2 : L2.St} {vs ws : List Nat} (h : Off ws (wipe σ vs) σ2) (hw : ∀ j ∈ ws, j ∈ vs) : wipe σ2 vs = wipe σ vs := by
  refine List.ext_getElem? fun j => ?_
  by_cases hj : j ∈ vs
  · have g : ∀ τ : L2.St, τ.length = σ.length → (wipe τ vs)[j]? = if j < σ.length then some none else none := fun τ ht => by
      by_cases hl : j < σ.length
      · rw [if_pos hl]
        have hl' : j < (wipe τ vs).length := by rw [wipe_length]; omega
        cases e : (wipe τ vs)[j]? with
        | none => rw [List.getElem?_eq_none_iff] at e; omega
        | some o =>
          cases o with
          | none => rfl
          | some v => exact absurd hj (wipe_some e).2
      · rw [if_neg hl]
        exact List.getElem?_eq_none_iff.mpr (by rw [wipe_length]; omega)
    rw [g σ2 (by rw [h.1, wipe_length]), g σ rfl]
  · rw [wipe_out hj, wipe_out hj, h.2 j fun z => hj (hw j z), wipe_out hj]
theorem fgt_un {j : Nat} : ∀ {is : List Nat} {S : List T} {t : T}, (fgt is S)[j]? = some t → j ∈ is → t = .un
  | [], _, _, _, h => by simp at h
  | i :: is, S, t, e, h => by
    by_cases hj : j ∈ is
    · exact fgt_un (is := is) e hj
    · have : j = i := by simpa [hj] using h
      subst this
      have out : ∀ (is : List Nat) (S : List T), j ∉ is → (fgt is S)[j]? = S[j]? := by
        intro is
        induction is with
        | nil => intro S _; rfl
        | cons k is ih =>
          intro S hk
          show (fgt is (S.set k .un))[j]? = _
          rw [ih _ (fun z => hk (List.mem_cons_of_mem _ z)), List.getElem?_set_ne (fun z => hk (by simp [z]))]
      have e : (fgt is (S.set j .un))[j]? = some t := e
      rw [out is _ hj] at e
      by_cases hl : j < S.length
      · rw [List.getElem?_set_self hl] at e
        exact (Option.some.inj e).symm
      · rw [List.getElem?_eq_none_iff.mpr (by rw [List.length_set]; omega)] at e
        cases e
/-- the same state over slots that agree off the forgotten ones -/
theorem Ok.over {K : PySem.W.Frag} {c : Ct} {B H : Hp} {S : List T} {σ σ' : L2.St} (vs : List Nat) (ok : Ok K c B H (SL.fgt vs S) σ) (hl : σ'.length = σ.length) (h : ∀ j v, j ∉ vs → σ[j]? = some (some v) → σ'[j]? = some (some v)) : Ok K c B H (SL.fgt vs S) σ' := by
  refine ⟨⟨ok.rep.bh, ok.rep.rh, ok.rep.nd, ok.rep.bf, ok.rep.rf, by rw [hl]; exact ok.rep.len, fun i t e => ?_⟩, ok.tr⟩
  by_cases hi : i ∈ vs
  · exact .inl (fgt_un e hi)
  · exact (ok.rep.sl i t e).imp id fun ⟨v, e1, e2⟩ => ⟨v, h i v hi e1, e2⟩
section
variable {X : Cx} {c : Ct} {Ke : KE}
theorem lc_read {K : PySem.W.Frag} {fi : WI} {g : WG} {t : WT} {f : WE} {vs ws : List Nat} (hw : ∀ j ∈ ws, j ∈ vs) : ∀ σ H Q, tE K c Ke (wLc fi vs g t f) σ H Q → tLc (tI K c Ke fi) (tGt K c ws g) (tT K c noEx t) (tE K c noEx f) vs σ H Q := by
  rintro σ Hs Q ⟨S0, B0, Kp, ok0, h0, post⟩
  refine ⟨S0, B0, _, ok0, h0, fun its S1 B1 H1 J h1 ok1 t1 hJ => fun D nD => ?_⟩
  obtain ⟨okD, tD⟩ := ok1.own1 (o := .lst []) nD
  have okw : Ok K c B1 (upd H1 D (.lst [])) (fgt vs S1) (wipe σ vs) := (okD.fgt vs).over vs (wipe_length σ vs) fun j v hj e => by rw [wipe_out hj]; exact e
  have fsub : ∀ {S : List T} {σ : L2.St} {B H : Hp}, Ok K c B H S σ → ∀ a ∈ feet (fgt vs S), a ∈ feet S := by
    intro S σ B H _ a ha
    have aux : ∀ (vs : List Nat) (S : List T), a ∈ feet (fgt vs S) → a ∈ feet S := by
      intro vs
      induction vs with
      | nil => intro S h; exact h
      | cons i vs ih =>
        intro S h
        rcases feet_set_mem (ih (S.set i .un) h) with z | z
        · simp [foot] at z
        · exact z
    exact aux vs S ha
  have acc0 : Acc K c.R B1 (upd H1 D (.lst [])) (fgt vs S1) D [] [] := by
    refine ⟨upd_same, by unfold RepTs; rfl, by simp [feet], by simp [feet], fun a ha => ?_⟩
    have e : a = D := by simpa [feet] using ha
    subst e
    exact ⟨fun z => ok1.rep.feet_some (fsub ok1 _ z) nD, none_of_sub ok1.rep.bh nD, none_of_sub ok1.rep.rh nD⟩
  have tr0 : Tr B0 Hs (feet S0) B1 (upd H1 D (.lst [])) (feet (fgt vs S1) ++ (D :: feet ([] : List T))) := by
    have t2 := t1.trans tD
    refine ⟨t2.sub, t2.keep, fun a ha => ?_, t2.base, t2.there⟩
    rcases List.mem_append.mp ha with z | z
    · exact t2.foot a (fsub ok1 a z)
    · have e : a = D := by simpa [feet] using z
      subst e
      exact .inr (t1.there _ nD)
  refine ⟨fun i m H => m = its.length - i ∧ i ≤ its.length ∧ ∃ S B acc us, Ok K c B H (fgt vs S) (wipe σ vs) ∧ Sub B1 B ∧ Acc K c.R B H (fgt vs S) D acc us ∧ Tr B0 Hs (feet S0) B H (feet (fgt vs S) ++ (D :: feet acc)) ∧ lcl vs g t f (its.drop i) (fgt vs S) acc (fun ts S2 => ∀ a, Kp (.ow (.lst a ts)) S2), ⟨its.length, by simp, Nat.zero_le _, S1, B1, [], [], okw, Sub.refl B1, acc0, tr0, by simpa using h1⟩, ?_⟩
  rintro i m H2 ⟨rfl, hil, S, B, acc, us, okS, sb, ha, tr, h⟩
  obtain ⟨hstop, hgo⟩ := hJ B H2 sb okS.rep.bh okS.rep.rh
  by_cases hi : i < its.length
  · right
    have e : its[i]? = some its[i] := List.getElem?_eq_getElem hi
    obtain ⟨h3, h4⟩ := hgo i _ e
    rw [List.drop_eq_getElem_cons hi] at h
    refine ⟨h3, fun H' => ∃ S B acc us, Ok K c B H' (fgt vs S) (wipe σ vs) ∧ Sub B1 B ∧ Acc K c.R B H' (fgt vs S) D acc us ∧ Tr B0 Hs (feet S0) B H' (feet (fgt vs S) ++ (D :: feet acc)) ∧ lcl vs g t f (its.drop (i + 1)) (fgt vs S) acc (fun ts S2 => ∀ a, Kp (.ow (.lst a ts)) S2),
      fun H' h => ⟨its.length - (i + 1), by omega, rfl, hi, h⟩, fun x H' hy => ?_⟩
    have hr := h4 x H' hy
    generalize its[i] = it at hr h
    have body : ∀ {p : P} {B3 : Hp}, Ok K c B3 H' (fgt vs S) (wipe σ vs) → Tr B H2 (feet (fgt vs S)) B3 H' (feet (fgt vs S)) → lfP p = true → RepP K c.R B3 H' (fgt vs S) p x → g p (fgt vs S) (fun S1 => t S1 (fun b S2 => if b = true then f S2 (fun p S3 => acc.length < 1000000 ∧ lcl vs g t f (its.drop (i + 1)) (fgt vs S3) (acc ++ [pT p]) (fun ts S2 => ∀ a, Kp (.ow (.lst a ts)) S2)) noEx else lcl vs g t f (its.drop (i + 1)) (fgt vs S2) acc (fun ts S2 => ∀ a, Kp (.ow (.lst a ts)) S2)) noEx) →
        tGt K c ws g x (wipe σ vs) H' fun σ2 H2 => wipe σ2 vs = wipe σ vs ∧ tT K c noEx t σ2 H2 fun b H3 => if b = true then tE K c noEx f σ2 H3 fun y H4 => ∃ acc, H4 D = some (.lst acc) ∧ acc.length < sizeLine ∧ (fun H' => ∃ S B acc us, Ok K c B H' (fgt vs S) (wipe σ vs) ∧ Sub B1 B ∧ Acc K c.R B H' (fgt vs S) D acc us ∧ Tr B0 Hs (feet S0) B H' (feet (fgt vs S) ++ (D :: feet acc)) ∧ lcl vs g t f (its.drop (i + 1)) (fgt vs S) acc (fun ts S2 => ∀ a, Kp (.ow (.lst a ts)) S2)) (upd H4 D (.lst (acc ++ [y]))) else (fun H' => ∃ S B acc us, Ok K c B H' (fgt vs S) (wipe σ vs) ∧ Sub B1 B ∧ Acc K c.R B H' (fgt vs S) D acc us ∧ Tr B0 Hs (feet S0) B H' (feet (fgt vs S) ++ (D :: feet acc)) ∧ lcl vs g t f (its.drop (i + 1)) (fgt vs S) acc (fun ts S2 => ∀ a, Kp (.ow (.lst a ts)) S2)) H3 := by
      intro p B3 ok3 tr3 hl rp hg
      refine ⟨fgt vs S, B3, p, _, ok3, by rw [lf_foot hl]; exact ok3.tr.nil', rp, hg, fun S4 σ4 B4 hk ok4 eB hfe hoff => ?_⟩
      subst eB
      refine ⟨wipe_off hoff hw, S4, B4, _, ok4, hk, fun b S5 B5 H5 h5 ok5 tr5 => ?_⟩
      have a3 := ha.mv tr3.nil'
      have t34 : Tr B4 H' (feet (fgt vs S)) B4 H' (feet S4) := (Tr.refl _ _ _).perm fun a z => by
        rcases hfe a z with z | z
        · exact z
        · rw [lf_foot hl] at z; simp at z
      have a5 := a3.mv (t34.trans tr5).nil'
      have tr5' : Tr B0 Hs (feet S0) B5 H5 (feet S5 ++ (D :: feet acc)) := tr.temp ((tr3.trans t34).trans tr5)
      have rew : ∀ {S : List T} {B H : Hp}, Ok K c B H S σ4 → Ok K c B H (fgt vs S) (wipe σ vs) := fun o => (o.fgt vs).over vs (by rw [hoff.1]) fun j v hj e => by
        rw [hoff.2 j fun z => hj (hw j z)] at e; exact e
      have sub5 : Sub B1 B5 := sb.trans (tr3.sub.trans tr5.sub)
      have fin : ∀ {S : List T} {B H : Hp} {acc : List T} {us : List V}, Ok K c B H S σ4 → Sub B1 B → Acc K c.R B H S D acc us → Tr B0 Hs (feet S0) B H (feet S ++ (D :: feet acc)) → lcl vs g t f (its.drop (i + 1)) (fgt vs S) acc (fun ts S2 => ∀ a, Kp (.ow (.lst a ts)) S2) →
          ∃ S B acc us, Ok K c B H (fgt vs S) (wipe σ vs) ∧ Sub B1 B ∧ Acc K c.R B H (fgt vs S) D acc us ∧ Tr B0 Hs (feet S0) B H (feet (fgt vs S) ++ (D :: feet acc)) ∧ lcl vs g t f (its.drop (i + 1)) (fgt vs S) acc (fun ts S2 => ∀ a, Kp (.ow (.lst a ts)) S2) := by
        intro S B H acc us o s a r l
        refine ⟨S, B, acc, us, rew o, s, ⟨a.at_, a.rep, a.nd, a.dn, fun b hb => ⟨fun z => (a.off b hb).1 (fsub o b z), (a.off b hb).2⟩⟩, r.perm fun b hb => ?_, l⟩
        rcases List.mem_append.mp hb with z | z
        · exact List.mem_append_left _ (fsub o b z)
        · exact List.mem_append_right _ z
      cases b with
      | false => exact fin ok5 sub5 a5 tr5' h5
      | true =>
        refine ⟨S5, B5, _, ok5, h5, fun q S6 y B6 H6 h6 ok6 tr6 r6 => ?_⟩
        have tr6 := tr6.nil
        have a6 := a5.mv tr6
        have hd : ∀ a ∈ footP q, a ∉ D :: feet acc := fun a ha z => by
          rcases tr6.foot a (List.mem_append_right _ ha) with w | w
          · exact (a5.off a z).1 w
          · rcases List.mem_cons.mp z with rfl | z
            · rw [a5.at_] at w; cases w
            · exact feet_some a5.rep z w
        obtain ⟨a7, r7⟩ := a6.push ok6.rep r6 hd
        refine ⟨_, a6.at_, ?_, ?_⟩
        · rw [a6.rep.len]; exact Nat.lt_of_lt_of_le h6.1 (by decide)
        · have tr6' : Tr B0 Hs (feet S0) B6 H6 (feet S6 ++ (D :: feet (acc ++ [pT q]))) := by
            refine (tr5'.temp tr6).perm fun a ha => ?_
            rw [feet_append, feet_one, (pT_rep r6).2.1] at ha
            simp only [List.mem_append, List.mem_cons] at ha ⊢
            rcases ha with z | z | z | z
            · exact .inl (.inl z)
            · exact .inr (.inl z)
            · exact .inr (.inr z)
            · exact .inl (.inr z)
          have hDs : ∀ {B H : Hp} {F : List Addr} {o : HO} {G : List Addr}, Tr B H F B6 H6 G → (D ∈ F ∨ H D = none) → Tr B H F B6 (upd H6 D o) G := fun {B H F o G} t hD => by
            refine ⟨t.sub, fun a o' h e => ?_, t.foot, t.base, fun a e => ?_⟩
            · by_cases hz : a = D
              · subst hz
                rcases hD with z | z
                · exact absurd z h
                · rw [z] at e; cases e
              · rw [upd_ne hz]; exact t.keep a o' h e
            · by_cases hz : a = D
              · subst hz; rw [upd_same] at e; cases e
              · rw [upd_ne hz] at e; exact t.there a e
          have hD0 : D ∈ feet S0 ∨ Hs D = none := tr0.foot D (List.mem_append_right _ List.mem_cons_self)
          refine fin ⟨r7, hDs ok6.tr ?_⟩ (sub5.trans tr6.sub) a7 (hDs tr6' hD0) h6.2
          rcases hD0 with z | z
          · exact ok0.tr.foot D z
          · exact .inr (ok0.tr.there D z)
    cases it with
    | one p =>
      obtain ⟨rfl, hl, rp⟩ := hr
      exact body okS (Tr.refl _ _ _) hl (rp.leafS hl) h
    | many ps =>
      obtain ⟨t', ws', rfl, nt, rfl, hl, rp⟩ := hr
      obtain ⟨ds, e2, h⟩ := optK_some h
      obtain ⟨o3, t3⟩ := okS.share1 (o := .tup ws') nt
      refine body (p := .sh (.tup ds)) o3 t3 rfl ?_ h
      unfold RepP RepD
      exact ⟨t', ws', rfl, SqT.of upd_same, (shDs_reps (leafs (S' := fgt vs S) hl rp) e2).mono t3.sub⟩
  · left
    have e : i = its.length := by omega
    subst e
    rw [List.drop_length] at h
    have okF : Ok K c B H2 (fgt vs S) σ := okS.over vs (wipe_length σ vs).symm fun j v hj e => by rw [wipe_out hj] at e; exact e
    refine ⟨hstop, post _ _ _ B H2 (h D) okF ?_ ⟨?_, ?_, ?_⟩⟩
    · rw [List.append_nil]
      exact tr.perm fun a ha => by simpa [footP, foot] using ha
    · unfold RepT; exact ⟨rfl, us, ha.at_, ha.rep⟩
    · simp only [foot]; exact List.nodup_cons.mpr ⟨ha.dn, ha.nd⟩
    · intro a z; exact ha.off a (by simpa [foot] using z)
theorem i_yes : PTs X [] (tT X.K c Ke wYes) := by
  refine ⟨fun pins s σ H Q I hw => pts_nil.run pins s σ H Q I ?_⟩
  obtain ⟨S, B, Kb, ok, h, q⟩ := hw
  exact q true S B H h ok (Tr.refl _ _ _)
theorem i_lc {elt tg iter : Expr} {ifs : List Expr} {scope : Scope} {own : List (Str × Nat)} {pos : Pos} {fi : WI} {g : WG} {t : WT} {f : WE} {ws : List Nat} (hc : X.calm = true) (hN : X.N.Nodup) (hi : PI X tg iter (tI X.K c Ke fi)) (ok : BlkOk X.N X.env.scope scope own)
    (hg : ∀ (s : Shared) (H : Hp) (C : Addr) (cl : List (Str × Addr)) (fp : List Addr), PG (X.blk s H scope (compEnvC scope cl C X.env) fp) tg (tGt X.K c ws g)) (ht : ∀ (s : Shared) (H : Hp) (C : Addr) (cl : List (Str × Addr)) (fp : List Addr), PTs (X.blk s H scope (compEnvC scope cl C X.env) fp) ifs (tT X.K c noEx t))
    (he : ∀ (s : Shared) (H : Hp) (C : Addr) (cl : List (Str × Addr)) (fp : List Addr), PE (X.blk s H scope (compEnvC scope cl C X.env) fp) elt (tE X.K c noEx f)) (hw : ∀ j ∈ ws, j ∈ own.map (·.2)) (hs : ∀ x, foldedSetIterable iter X.env x = pure x := by intro _; rfl) :
    PE X (.ListComp elt [⟨tg, iter, ifs, 0⟩] scope pos) (tE X.K c Ke (wLc fi (own.map (·.2)) g t f)) := by
  refine wkE (pe_lc hc hN hi ok hg ht he hs) (lc_read hw)
theorem i_setLc {i : Nat} {y : Str} {py : Pos} {elt tg iter : Expr} {ifs : List Expr} {scope : Scope} {own : List (Str × Nat)} {pos spos : Pos} {fi : WI} {g : WG} {t : WT} {f : WE} {ws : List Nat} (hc : X.calm = true) (hN : X.N.Nodup) (hy : X.N[i]? = some y) (hyl : X.env.scope.names.lookup y = some .local)
    (hsw : swapsWith (.ListComp elt [⟨tg, iter, ifs, 0⟩] scope pos) (some (.Name y py)) spos.line X.env = pure true) (hi : PI X tg iter (tI X.K c Ke fi)) (ok : BlkOk X.N X.env.scope scope own)
    (hg : ∀ (s : Shared) (H : Hp) (C : Addr) (cl : List (Str × Addr)) (fp : List Addr), PG (X.blk s H scope (compEnvC scope cl C X.env) fp) tg (tGt X.K c ws g)) (ht : ∀ (s : Shared) (H : Hp) (C : Addr) (cl : List (Str × Addr)) (fp : List Addr), PTs (X.blk s H scope (compEnvC scope cl C X.env) fp) ifs (tT X.K c noEx t))
    (he : ∀ (s : Shared) (H : Hp) (C : Addr) (cl : List (Str × Addr)) (fp : List Addr), PE (X.blk s H scope (compEnvC scope cl C X.env) fp) elt (tE X.K c noEx f)) (hw : ∀ j ∈ ws, j ∈ own.map (·.2)) (hs : ∀ x, foldedSetIterable iter X.env x = pure x := by intro _; rfl) :
    PS X (.Assign [.Name y py] (.ListComp elt [⟨tg, iter, ifs, 0⟩] scope pos) spos) (tS X.K c Ke (wAsg (wLc fi (own.map (·.2)) g t f) (sto i))) := by
  refine wkS (ps_setLc hc hN hy hyl hsw hi ok hg ht he hs) ?_
  rintro D σ H ⟨S, B, k, ok', h, rfl, n, bk, ct, rt⟩
  refine lc_read hw σ H _ ⟨S, B, _, ok', h, fun p S1 v B1 H1 h1 ok1 t1 r1 => ?_⟩
  exact sto_ok ok1 (ok'.tr.trans t1.nil) r1 h1 fun S' σ' B' hk ok' eB _ _ => n S' σ' B' H1 hk ok' (by rw [eB]; exact t1.sub)
end
end SL

set_option Elab.async false
set_option linter.all false
set_option maxRecDepth 100000
set_option maxHeartbeats 4000000
/-! SL10: contracts of defs; a def by its body; calls. -/
namespace SL
open PySem PySem.Spec PyProof.Rows L2

/-- what a def promises: the arguments' trees, what is wanted of the result and the arguments behind it, what is wanted of an exception -/
abbrev Con := List T → (P → List T → Prop) → (Ev → List T → Prop) → Prop
structure ArgsOk (K : PySem.W.Frag) (R B H : Hp) (ts : List T) (vs : List V) : Prop where
  bh : Sub B H
  rh : Sub R H
  nd : (feet ts).Nodup
  bf : ∀ a ∈ feet ts, B a = none
  rf : ∀ a ∈ feet ts, R a = none
  rep : RepTs K R B H ts vs
/-- how an exception lies: its class, its fields -/
def EvOk (K : PySem.W.Frag) (B : Hp) (ev : Ev) (cls : Value) (d : Option Addr) : Prop :=
  cls = .ref ev.cls ∧ ∀ (j : Nat) (n : Str), ev.ns[j]? = some n → ∃ x dd fs v, ev.xs[j]? = some x ∧ d = some dd ∧ B dd = some (.xd fs) ∧ fs.lookup n = some v ∧ RepD K B x v
theorem EvOk.mono {K : PySem.W.Frag} {B B' : Hp} {ev : Ev} {cls : Value} {d : Option Addr} (s : Sub B B') (h : EvOk K B ev cls d) : EvOk K B' ev cls d :=
  ⟨h.1, fun j n e => by
    obtain ⟨x, dd, fs, v, h1, h2, h3, h4, h5⟩ := h.2 j n e
    exact ⟨x, dd, fs, v, h1, h2, s _ _ h3, h4, h5.mono s⟩⟩
def SpI (K : PySem.W.Frag) (n : Nat) (C : Con) : Sp := fun vs H Q E => ∃ ts R B Kr Kx, vs.length = n ∧ ArgsOk K R B H ts vs ∧ C ts Kr Kx ∧
  (∀ p ts' v B' H', Kr p ts' → Tr B H (feet ts) B' H' (feet ts' ++ footP p) → ArgsOk K R B' H' ts' vs → RepP K R B' H' ts' p v → Q v H') ∧
  (∀ ev ts' cls d B' H', Kx ev ts' → Tr B H (feet ts) B' H' (feet ts') → ArgsOk K R B' H' ts' vs → EvOk K B' ev cls d → E cls d H')
/-- an argument behind the body: the slot if it still holds the object -/
def outT (t s : T) : T := match adr t with
  | none => t
  | some a => if adr s = some a then s else .un
def outs : List T → List T → List T
  | [], _ => []
  | t :: ts, [] => (match adr t with
    | none => t
    | some _ => .un) :: outs ts []
  | t :: ts, s :: S => outT t s :: outs ts S
theorem foot_adr {t : T} (h : adr t = none) : foot t = [] := by
  cases t <;> first | rfl | (simp [adr] at h)
theorem outT_foot {t s : T} : ∀ a ∈ foot (outT t s), a ∈ foot s := fun a ha => by
  unfold outT at ha
  cases e : adr t with
  | none => simp only [e] at ha; rw [foot_adr e] at ha; simp at ha
  | some b =>
    simp only [e] at ha
    split at ha
    · exact ha
    · simp [foot] at ha
theorem outT_nd {t s : T} (h : (foot s).Nodup) : (foot (outT t s)).Nodup := by
  unfold outT
  cases e : adr t with
  | none => simp only; rw [foot_adr e]; exact List.nodup_nil
  | some b =>
    simp only
    split
    · exact h
    · simp [foot]
theorem outs_feet : ∀ {ts S : List T}, (∀ a ∈ feet (outs ts S), a ∈ feet S) ∧ ((feet S).Nodup → (feet (outs ts S)).Nodup)
  | [], S => ⟨fun a ha => by simp [outs, feet] at ha, fun _ => by simp [outs, feet]⟩
  | t :: ts, [] => by
    obtain ⟨h1, h2⟩ := outs_feet (ts := ts) (S := [])
    have e : foot (match adr t with
      | none => t
      | some _ => .un) = [] := by
      cases e : adr t with
      | none => exact foot_adr e
      | some b => rfl
    refine ⟨fun a ha => ?_, fun hn => ?_⟩
    · simp only [outs, feet, e, List.nil_append] at ha; exact h1 a ha
    · simp only [outs, feet, e, List.nil_append]; exact h2 hn
  | t :: ts, s :: S => by
    obtain ⟨h1, h2⟩ := outs_feet (ts := ts) (S := S)
    refine ⟨fun a ha => ?_, fun hn => ?_⟩
    · simp only [outs, feet] at ha ⊢
      rcases List.mem_append.mp ha with z | z
      · exact List.mem_append_left _ (outT_foot a z)
      · exact List.mem_append_right _ (h1 a z)
    · simp only [outs, feet] at hn ⊢
      obtain ⟨n1, n2, n3⟩ := List.nodup_append.mp hn
      exact List.nodup_append.mpr ⟨outT_nd n1, h2 n2, fun a ha b hb e => n3 a (outT_foot a ha) b (h1 b hb) e⟩
theorem outs_rep {K : PySem.W.Frag} {R B H B' H' : Hp} (sb : Sub B B') : ∀ {ts S : List T} {vs : List V} {σ : L2.St}, RepTs K R B H ts vs → (∀ (i : Nat) (t : T), S[i]? = some t → t = .un ∨ ∃ v, σ[i]? = some (some v) ∧ RepT K R B' H' t v) → RepTs K R B' H' (outs ts S) vs
  | [], _, _, _, h, _ => by unfold RepTs at h; subst h; unfold outs RepTs; rfl
  | t :: ts, [], _, σ, h, g => by
    unfold RepTs at h
    obtain ⟨w, r, rfl, h1, h2⟩ := h
    unfold outs RepTs
    refine ⟨w, r, rfl, ?_, outs_rep (S := []) (σ := σ) sb h2 (fun i t e => by simp at e)⟩
    cases e : adr t with
    | none =>
      simp only
      exact h1.mono sb fun a o ha => by rw [foot_adr e] at ha; simp at ha
    | some b => simp only; unfold RepT; trivial
  | t :: ts, s :: S, _, σ, h, g => by
    unfold RepTs at h
    obtain ⟨w, r, rfl, h1, h2⟩ := h
    unfold outs RepTs
    refine ⟨w, r, rfl, ?_, outs_rep (S := S) (σ := σ.drop 1) sb h2 (fun i t e => ?_)⟩
    · unfold outT
      cases e : adr t with
      | none =>
        simp only
        exact h1.mono sb fun a o ha => by rw [foot_adr e] at ha; simp at ha
      | some b =>
        simp only
        split
        · rename_i es
          rcases g 0 s rfl with rfl | ⟨v, _, hv⟩
          · cases es
          · rw [h1.adr e, ← hv.adr es]; exact hv
        · unfold RepT; trivial
    · rcases g (i + 1) t (by simpa using e) with z | ⟨v, e1, hv⟩
      · exact .inl z
      · exact .inr ⟨v, by rw [List.getElem?_drop, Nat.add_comm]; exact e1, hv⟩
/-- results that may go out: no place -/
def goes : P → Bool
  | .at _ _ => false
  | _ => true
def kOf (ts : List T) (Kr : P → List T → Prop) (Kx : Ev → List T → Prop) : KS where
  nx := fun S' => Kr (.sh .non) (outs ts S')
  rt := fun p S' => goes p = true ∧ Kr p (outs ts S')
  bk := fun _ => False
  ct := fun _ => False
  ex := fun ev S' => Kx ev (outs ts S')
/-- what X takes of exceptions -/
def wxS (K : PySem.W.Frag) (c : Ct) (Ke : KE) : WX := fun cls d σ H => ∃ ev S B, Ke ev S ∧ Ok K c B H S σ ∧ EvOk K B ev cls d
theorem args_out {K : PySem.W.Frag} {R B H B' H' : Hp} {ts S : List T} {vs : List V} {σ : L2.St} (h : ArgsOk K R B H ts vs) (ok : Ok K ⟨R, B, H, feet ts⟩ B' H' S σ) : ArgsOk K R B' H' (outs ts S) vs :=
  ⟨ok.rep.bh, ok.rep.rh, outs_feet.2 ok.rep.nd, fun a ha => ok.rep.bf a (outs_feet.1 a ha), fun a ha => ok.rep.rf a (outs_feet.1 a ha), outs_rep ok.tr.sub h.rep ok.rep.sl⟩
theorem goes_rep {K : PySem.W.Frag} {R B H : Hp} {ts S : List T} {p : P} {v : V} (g : goes p = true) (r : RepP K R B H S p v) : RepP K R B H (outs ts S) p v := by
  cases p with
  | sh d => exact r
  | br d => exact r
  | ow t =>
    unfold RepP at r ⊢
    exact ⟨r.1, r.2.1, fun a ha => ⟨fun z => (r.2.2 a ha).1 (outs_feet.1 a z), (r.2.2 a ha).2⟩⟩
  | «at» i q => cases g
theorem feet_un : ∀ n : Nat, feet (List.replicate n T.un) = []
  | 0 => rfl
  | n + 1 => by rw [List.replicate_succ]; simp [feet, foot, feet_un n]
/-- the entry -/
theorem ok_start {K : PySem.W.Frag} {R B H : Hp} {ts : List T} {vs : List V} {N : List Str} (h : ArgsOk K R B H ts vs) (hl : vs.length ≤ N.length) : Ok K ⟨R, B, H, feet ts⟩ B H (ts ++ List.replicate (N.length - ts.length) .un) (L2.start N vs) := by
  have hlen := h.rep.len
  have fe : feet (ts ++ List.replicate (N.length - ts.length) .un) = feet ts := by rw [feet_append, feet_un, List.append_nil]
  refine ⟨⟨h.bh, h.rh, by rw [fe]; exact h.nd, by rw [fe]; exact h.bf, by rw [fe]; exact h.rf, ?_, fun i t e => ?_⟩, by rw [fe]; exact Tr.refl _ _ _⟩
  · unfold L2.start
    rw [List.length_append, List.length_append, List.length_map, List.length_replicate, List.length_replicate, hlen]
  · by_cases hi : i < ts.length
    · rw [List.getElem?_append_left hi] at e
      obtain ⟨w, e1, e2⟩ := h.rep.get e
      refine .inr ⟨w, ?_, e2⟩
      unfold L2.start
      rw [List.getElem?_append_left (by rw [List.length_map, hlen]; exact hi), List.getElem?_map, e1]
      rfl
    · rw [List.getElem?_append_right (by omega)] at e
      rw [List.getElem?_replicate] at e
      split at e
      · cases e; exact .inl rfl
      · cases e
/-- THE RULE: a def by its body -/
theorem fn_sl {P : Program} {w : World} {K : PySem.W.Frag} {mg : Str → Option Value} {base : Heap} {k : Nat} {f : Addr} {name qual : Str} {params : Arguments} {body : List Stmt} {scope : Scope} {dV kV doc pm cdv ct oc : Value} {an od : Option Addr}
    {osl : Array (Option Value)} {N ps : List Str} {C : Con} {W : WS} (lk : K.lookup f = some ⟨oc, od, .func (PySem.W.fnOf name qual params body scope dV kV doc pm an cdv ct), osl⟩) (hcd : PySem.W.codeIn K cdv qual = true) (S : FnScope N ps scope)
    (hbody : ∀ (A : Around) (outer : List Env) (s : Shared) (H : Hp) (E : XK) (c : Ct) (Ke : KE), Room k (A.deeper (envOfC qual scope s.heap.objs.size f cdv)) → Takes (cxOf (L2.CX P w) P w K mg base N qual scope f cdv A outer s H E) (wxS K c Ke) →
      PSs (cxOf (L2.CX P w) P w K mg base N qual scope f cdv A outer s H E) body (tS K c Ke W))
    (hw : ∀ ts Kr Kx, ts.length = ps.length → C ts Kr Kx → W (ts ++ List.replicate (N.length - ps.length) .un) (kOf ts Kr Kx)) :
    FnOk P w K mg base (L2.CX P w) (k + 1) f (PySem.W.fnOf name qual params body scope dV kV doc pm an cdv ct) ps (SpI K ps.length C) := by
  refine fn_of lk hcd S (fun vs H Q E h => ?_) fun A outer s H vs Q E hr h => ?_
  · obtain ⟨ts, R, B, Kr, Kx, h1, _⟩ := h
    exact h1
  · obtain ⟨ts, R, B, Kr, Kx, hl, ha, hC, hQ, hE⟩ := h
    have hts : ts.length = ps.length := by rw [← ha.rep.len]; exact hl
    have hN : vs.length ≤ N.length := by
      have := congrArg List.length S.pre
      rw [List.length_take] at this
      omega
    have hst := ok_start (N := N) ha hN
    have tk0 := takes_of (X := cxOf (L2.CX P w) P w K mg base N qual scope f cdv A outer s H E) (E := E) rfl rfl rfl rfl
    have tk := tk0.imp (W' := wxS K ⟨R, B, H, feet ts⟩ fun ev S' => Kx ev (outs ts S')) fun cls d σ H' ⟨ev, S', B', hk, ok, he⟩ =>
      hE ev _ cls d B' H' hk (ok.tr.perm fun a h => outs_feet.1 a h) (args_out ha ok) he
    refine ⟨_, hbody A outer s H E ⟨R, B, H, feet ts⟩ (fun ev S' => Kx ev (outs ts S')) hr tk, ?_⟩
    refine ⟨_, B, kOf ts Kr Kx, hst, by rw [hts]; exact hw ts Kr Kx hts hC, rfl, fun S' σ' B' H' hk ok _ => ?_, fun S' σ' B' H' hk _ _ => hk.elim, fun S' σ' B' H' hk _ _ => hk.elim, fun p S' v σ' B' H' hk ok tr r => ?_⟩
    · exact hQ (.sh .non) _ .non B' H' hk ((ok.tr.perm fun a h => outs_feet.1 a h).nil') (args_out ha ok) (flat_non K B')
    · refine hQ p _ v B' H' hk.2 (tr.perm fun a h => ?_) (args_out ha ok) (goes_rep hk.1 r)
      exact (List.mem_append.mp h).elim (fun z => List.mem_append_left _ (outs_feet.1 a z)) fun z => List.mem_append_right _ z
end SL

set_option Elab.async false
set_option linter.all false
set_option maxRecDepth 100000
set_option maxHeartbeats 4000000
/-! SL11: what a call leaves. -/
namespace SL
open PySem PySem.Spec PyProof.Rows L2

/-- how an argument is given: as it is; only to be looked at; to be changed where it lies -/
inductive Md | as | bo | io
def argT (S : List T) : Md → P → T
  | .bo, .sh d => brT d
  | .bo, .at i q => brT (pk S (.at i q))
  | _, .sh d => .sh d
  | .bo, .br d => brT d
  | _, .br d => .br d
  | _, .ow t => t
  | .io, .at i q => (node S i q).getD .un
  | .as, .at _ _ => .un
def args (S : List T) : List Md → List P → List T
  | _, [] => []
  | [], p :: ps => argT S .bo p :: args S [] ps
  | m :: ms, p :: ps => argT S m p :: args S ms ps
def ios : Nat → List Md → List P → List (Nat × Nat × List Nat)
  | j, .io :: ms, .at i q :: ps => (j, i, q) :: ios (j + 1) ms ps
  | j, _ :: ms, _ :: ps => ios (j + 1) ms ps
  | _, _, _ => []
def bos : List Md → List P → List Nat
  | .bo :: ms, .at i _ :: ps => i :: bos ms ps
  | [], .at i _ :: ps => i :: bos [] ps
  | _ :: ms, _ :: ps => bos ms ps
  | [], _ :: ps => bos [] ps
  | _, [] => []
def owClean : P → Bool
  | .ow t => clean t
  | _ => true
def callB (S : List T) (ms : List Md) (ps : List P) : Bool := ps.all owClean && match ios 0 ms ps with
  | [] => true
  | [(_, i, q)] => !(bos ms ps).contains i && (match node S i q with
    | some t => clean t
    | none => false)
  | _ => false
def back (S : List T) (ms : List Md) (ps : List P) (ts' : List T) : Option (List T) := match ios 0 ms ps with
  | [] => some S
  | [(j, i, q)] => (ts'[j]?).bind fun u => if clean u = true then putN S i q u else none
  | _ => none
def hide (H : Hp) (F : List Addr) : Hp := fun a => if a ∈ F then none else H a
theorem hide_out {H : Hp} {F : List Addr} {a : Addr} (h : a ∉ F) : hide H F a = H a := by unfold hide; rw [if_neg h]
theorem hide_in {H : Hp} {F : List Addr} {a : Addr} (h : a ∈ F) : hide H F a = none := by unfold hide; rw [if_pos h]
theorem hide_sub {H : Hp} {F : List Addr} : Sub (hide H F) H := fun a o e => by
  by_cases h : a ∈ F
  · rw [hide_in h] at e; cases e
  · rw [hide_out h] at e; exact e
theorem sub_hide {B H : Hp} {F : List Addr} (s : Sub B H) (h : ∀ a ∈ F, B a = none) : Sub B (hide H F) := fun a o e => by
  by_cases q : a ∈ F
  · rw [h a q] at e; cases e
  · rw [hide_out q]; exact s a o e
mutual
theorem RepT.reR {K : PySem.W.Frag} {R R2 B H : Hp} : ∀ {t : T} {v : V}, clean t = true → RepT K R B H t v → RepT K R2 B H t v
  | .un, _, _, _ => by unfold RepT; trivial
  | .sh _, _, _, h => by unfold RepT at h ⊢; exact h
  | .br _, _, c, _ => by simp [clean] at c
  | .dT _ _, _, _, h => by unfold RepT at h ⊢; exact h
  | .lst a ts, _, c, h => by
    unfold RepT at h ⊢
    obtain ⟨e, ws, h1, h2⟩ := h
    exact ⟨e, ws, h1, RepTs.reR (by simpa [clean] using c) h2⟩
  | .ins a C ns ts, _, c, h => by
    unfold RepT at h ⊢
    obtain ⟨e, dx, ws, h1, hl, h2⟩ := h
    exact ⟨e, dx, ws, h1, hl, RepTs.reR (by simpa [clean] using c) h2⟩
theorem RepTs.reR {K : PySem.W.Frag} {R R2 B H : Hp} : ∀ {ts : List T} {ws : List V}, cleans ts = true → RepTs K R B H ts ws → RepTs K R2 B H ts ws
  | [], _, _, h => by unfold RepTs at h ⊢; exact h
  | t :: ts, _, c, h => by
    unfold RepTs at h ⊢
    obtain ⟨w, r, e, h1, h2⟩ := h
    have c : clean t = true ∧ cleans ts = true := by simpa [cleans] using c
    exact ⟨w, r, e, RepT.reR c.1 h1, RepTs.reR c.2 h2⟩
end
theorem RepPs.foot {K : PySem.W.Frag} {R B H : Hp} {S : List T} {ps : List P} {vs : List V} (h : RepPs K R B H S ps vs) : ∀ a ∈ feetP ps, H a ≠ none ∧ a ∉ feet S ∧ B a = none ∧ R a = none := by
  induction h with
  | nil => intro a ha; simp [feetP] at ha
  | cons r d _ ih =>
    intro a ha
    rcases List.mem_append.mp (by simpa [feetP] using ha) with z | z
    · exact r.some z
    · exact ih a z
theorem node_slot {S : List T} {i : Nat} {q : List Nat} {t : T} (e : node S i q = some t) : ∃ u, S[i]? = some u ∧ ∀ a ∈ foot t, a ∈ foot u := by
  unfold node at e
  cases z : S[i]? with
  | none => rw [z] at e; cases e
  | some u => rw [z] at e; exact ⟨u, rfl, at_feet q u t e⟩
theorem pk_at {S : List T} {i : Nat} {q : List Nat} {t : T} (e : node S i q = some t) : pk S (.at i q) = toD t := by
  simp only [pk, e]
section
variable {K : PySem.W.Frag} {c : Ct} {B H B' H' : Hp} {S S2 : List T} {σ : L2.St} {F G : List Addr}
theorem argT_rep {m : Md} {p : P} {v : V} (rep : Rep K c.R B H S σ) (hF : ∀ a ∈ F, B a = none ∧ c.R a = none) (r : RepP K c.R B H S p v) (hc : owClean p = true)
    (hbo : m = .bo → ∀ i q, p = .at i q → ∀ t, S[i]? = some t → ∀ a ∈ F, a ∉ SL.foot t) (hio : m = .io → ∀ i q, p = .at i q → ∀ t, SL.node S i q = some t → clean t = true) :
    RepT K (hide H F) B H (argT S m p) v := by
  have sB := sub_hide (F := F) rep.bh fun a ha => (hF a ha).1
  have sR := sub_hide (F := F) rep.rh fun a ha => (hF a ha).2
  cases p with
  | sh d =>
    unfold RepP at r
    cases m with
    | bo => exact brT_rep (r.mono sB)
    | as => show RepT _ _ _ _ (.sh d) v; unfold RepT; exact r
    | io => show RepT _ _ _ _ (.sh d) v; unfold RepT; exact r
  | br d =>
    unfold RepP at r
    cases m with
    | bo => exact brT_rep (r.mono sR)
    | as => show RepT _ _ _ _ (.br d) v; unfold RepT; exact r.mono sR
    | io => show RepT _ _ _ _ (.br d) v; unfold RepT; exact r.mono sR
  | ow t =>
    unfold RepP at r
    have e : argT S m (.ow t) = t := by cases m <;> rfl
    rw [e]
    exact r.1.reR hc
  | «at» i q =>
    unfold RepP at r
    obtain ⟨t, a, en, ea, rfl⟩ := r
    have rt := rep.node en ea
    cases m with
    | as => show RepT _ _ _ _ .un _; unfold RepT; trivial
    | io =>
      show RepT _ _ _ _ ((SL.node S i q).getD .un) _
      rw [en]
      exact rt.reR (hio rfl i q rfl t en)
    | bo =>
      show RepT _ _ _ _ (brT (SL.pk S (.at i q))) _
      rw [pk_at en]
      refine brT_rep ?_
      obtain ⟨u, eu, hu⟩ := node_slot en
      have rt' : RepT K c.R B (hide H F) t (.ref a) := rt.mono (Sub.refl B) fun b o hb e => by
        rw [hide_out fun z => hbo rfl i q rfl u eu b z (hu b hb)]; exact e
      exact rt'.toD sB sR
theorem ios_get : ∀ {ms : List Md} {ps : List P} {n j i : Nat} {q : List Nat}, (j, i, q) ∈ ios n ms ps → n ≤ j ∧ ps[j - n]? = some (.at i q)
  | [], [], _, _, _, _, h => by simp [ios] at h
  | [], _ :: _, _, _, _, _, h => by simp [ios] at h
  | _ :: _, [], _, _, _, _, h => by simp [ios] at h
  | m :: ms, p :: ps, n, j, i, q, h => by
    have next : (j, i, q) ∈ ios (n + 1) ms ps → n ≤ j ∧ (p :: ps)[j - n]? = some (.at i q) := fun h => by
      obtain ⟨h1, h2⟩ := ios_get h
      refine ⟨by omega, ?_⟩
      rw [show j - n = (j - (n + 1)) + 1 by omega, List.getElem?_cons_succ]
      exact h2
    cases m <;> cases p <;> simp only [ios] at h <;> first | exact next h | skip
    rcases List.mem_cons.mp h with e | h
    · cases e; exact ⟨Nat.le_refl _, by simp⟩
    · exact next h
theorem ios_shift : ∀ {ms : List Md} {ps : List P} {n : Nat}, (ios n ms ps).length = (ios 0 ms ps).length
  | [], [], _ => by simp [ios]
  | [], _ :: _, _ => by simp [ios]
  | _ :: _, [], _ => by simp [ios]
  | m :: ms, p :: ps, n => by
    have h1 := ios_shift (ms := ms) (ps := ps) (n := n + 1)
    have h2 := ios_shift (ms := ms) (ps := ps) (n := 1)
    cases m <;> cases p <;> simp only [ios, List.length_cons, Nat.zero_add] <;> omega
theorem argT_foot {m : Md} {p : P} : ∀ a ∈ SL.foot (argT S m p), a ∈ footP p ∨ (m = .io ∧ ∃ i q t, p = .at i q ∧ SL.node S i q = some t ∧ a ∈ SL.foot t) := fun a ha => by
  cases p with
  | sh d => cases m <;> simp only [argT, foot_brT] at ha <;> first | (simp at ha; done) | (simp [SL.foot] at ha)
  | br d => cases m <;> simp only [argT, foot_brT] at ha <;> first | (simp at ha; done) | (simp [SL.foot] at ha)
  | ow t =>
    have e : argT S m (.ow t) = t := by cases m <;> rfl
    rw [e] at ha; exact .inl ha
  | «at» i q =>
    cases m with
    | as => simp [argT, SL.foot] at ha
    | bo => simp only [argT, foot_brT] at ha; simp at ha
    | io =>
      simp only [argT] at ha
      cases e : SL.node S i q with
      | none => rw [e] at ha; simp [SL.foot] at ha
      | some t => rw [e] at ha; exact .inr ⟨rfl, i, q, t, rfl, e, ha⟩
theorem args_foot : ∀ {ms : List Md} {ps : List P} {n : Nat}, ∀ a ∈ feet (args S ms ps), a ∈ feetP ps ∨ ∃ j i q t, (j, i, q) ∈ ios n ms ps ∧ SL.node S i q = some t ∧ a ∈ SL.foot t
  | _, [], n, a, ha => by simp [args, feet] at ha
  | [], p :: ps, n, a, ha => by
    simp only [args, feet] at ha
    rcases List.mem_append.mp ha with z | z
    · rcases argT_foot a z with z | ⟨e, _⟩
      · exact .inl (by simp [feetP, z])
      · cases e
    · rcases args_foot (ms := []) (ps := ps) (n := n) a z with z | ⟨j, i, q, t, h, _⟩
      · exact .inl (by simp [feetP, z])
      · cases ps <;> simp [ios] at h
  | m :: ms, p :: ps, n, a, ha => by
    simp only [args, feet] at ha
    rcases List.mem_append.mp ha with z | z
    · rcases argT_foot a z with z | ⟨rfl, i, q, t, rfl, e, h⟩
      · exact .inl (by simp [feetP, z])
      · exact .inr ⟨n, i, q, t, by simp [ios], e, h⟩
    · rcases args_foot (ms := ms) (ps := ps) (n := n + 1) a z with z | ⟨j, i, q, t, h, h2⟩
      · exact .inl (by simp [feetP, z])
      · refine .inr ⟨j, i, q, t, ?_, h2⟩
        cases m <;> cases p <;> simp only [ios] <;> first | exact h | exact List.mem_cons_of_mem _ h
theorem footP_nd {p : P} {v : V} (r : RepP K c.R B H S p v) : (footP p).Nodup := by
  cases p <;> first | exact List.nodup_nil | exact r.2.1
theorem argT_nd {m : Md} {p : P} {v : V} (rep : Rep K c.R B H S σ) (r : RepP K c.R B H S p v) : (SL.foot (argT S m p)).Nodup := by
  cases p with
  | sh d => cases m <;> simp only [argT, foot_brT, SL.foot] <;> exact List.nodup_nil
  | br d => cases m <;> simp only [argT, foot_brT, SL.foot] <;> exact List.nodup_nil
  | ow t =>
    have e : argT S m (.ow t) = t := by cases m <;> rfl
    rw [e]; exact r.2.1
  | «at» i q =>
    cases m with
    | as => simp [argT, SL.foot]
    | bo => simp [argT, foot_brT]
    | io =>
      simp only [argT]
      cases e : SL.node S i q with
      | none => simp [SL.foot]
      | some t =>
        simp only [Option.getD_some]
        unfold SL.node at e
        cases z : S[i]? with
        | none => rw [z] at e; cases e
        | some t0 =>
          rw [z] at e
          have e3 : t0.at q = some t := e
          have aux : ∀ (q : List Nat) (t0 : T), t0.at q = some t → (SL.foot t0).Nodup → (SL.foot t).Nodup := by
            intro q
            induction q with
            | nil =>
              intro t0 h hn
              have e1 : t0 = t := by simpa [T.at] using h
              subst e1; exact hn
            | cons k q ih =>
              intro t0 h hn
              cases t0 <;> simp only [T.at] at h <;> first | (cases h; done) | skip
              all_goals
                rename_i ts
                cases q3 : ts[k]? with
                | none => rw [q3] at h; cases h
                | some x =>
                  rw [q3] at h
                  simp only [SL.foot] at hn
                  exact ih x h (foot_nodup_of (List.nodup_cons.mp hn).2 q3)
          exact aux q t0 e3 (foot_nodup_of rep.nd z)
theorem args_nd (rep : Rep K c.R B H S σ) {ps : List P} {vs : List V} (r : RepPs K c.R B H S ps vs) : ∀ {ms : List Md} {n : Nat}, (ios n ms ps).length ≤ 1 → (feet (args S ms ps)).Nodup := by
  induction r with
  | nil => intro ms n _; cases ms <;> simp [args, feet]
  | @cons p v ps vs r d rs ih =>
    intro ms n hl
    have key : ∀ (m : Md) (ms' : List Md) (n' : Nat), (ios n' ms' ps).length ≤ 1 → (m = .io → ∀ i q, p = .at i q → (ios n' ms' ps) = []) → (SL.foot (argT S m p) ++ feet (args S ms' ps)).Nodup := by
      intro m ms' n' h1 h2
      refine List.nodup_append.mpr ⟨argT_nd rep r, ih h1, fun a ha b hb e => ?_⟩
      subst e
      rcases argT_foot a ha with z | ⟨rfl, i, q, t, rfl, en, hz⟩
      · rcases args_foot (n := n') a hb with y | ⟨j, i, q, t, _, en, y⟩
        · exact d a z y
        · exact (r.some z).2.1 (node_feet en a y)
      · rcases args_foot (n := n') a hb with y | ⟨j, i', q', t', y, _, _⟩
        · exact (rs.foot a y).2.1 (node_feet en a hz)
        · rw [h2 rfl i q rfl] at y; simp at y
    cases ms with
    | nil => exact key .bo [] 0 (by cases ps <;> simp [ios]) (fun e => by cases e)
    | cons m ms' =>
      have hl' : (ios (n + 1) ms' ps).length ≤ 1 ∧ (m = .io → ∀ i q, p = .at i q → (ios (n + 1) ms' ps) = []) := by
        cases m <;> cases p <;> simp only [ios, List.length_cons] at hl <;> refine ⟨by omega, fun e i q e2 => ?_⟩ <;> first | (cases e; done) | (cases e2; done) | skip
        exact List.eq_nil_of_length_eq_zero (by omega)
      exact key m ms' (n + 1) hl'.1 hl'.2
theorem args_rep (rep : Rep K c.R B H S σ) (hF : ∀ a ∈ F, B a = none ∧ c.R a = none) {ps : List P} {vs : List V} (r : RepPs K c.R B H S ps vs) : ∀ {ms : List Md} {n : Nat}, ps.all owClean = true → (∀ i ∈ bos ms ps, ∀ t, S[i]? = some t → ∀ a ∈ F, a ∉ SL.foot t) →
    (∀ j i q, (j, i, q) ∈ ios n ms ps → ∀ t, SL.node S i q = some t → clean t = true) → RepTs K (hide H F) B H (args S ms ps) vs := by
  induction r with
  | nil => intro ms n _ _ _; cases ms <;> (unfold args RepTs; rfl)
  | @cons p v ps vs r d rs ih =>
    intro ms n hc hb hi
    have hc : owClean p = true ∧ ps.all owClean = true := by simpa using hc
    cases ms with
    | nil =>
      unfold args RepTs
      refine ⟨v, vs, rfl, argT_rep rep hF r hc.1 (fun _ i q e => hb i ?_) (fun e => by cases e), ih (n := n) hc.2 (fun i h => hb i ?_) (fun j i q h => by cases ps <;> simp [ios] at h)⟩
      · subst e; simp [bos]
      · cases p <;> simp only [bos] <;> first | exact h | exact List.mem_cons_of_mem _ h
    | cons m ms' =>
      unfold args RepTs
      refine ⟨v, vs, rfl, argT_rep rep hF r hc.1 (fun em i q e => hb i ?_) (fun em i q e => hi n i q ?_), ih (n := n + 1) hc.2 (fun i h => hb i ?_) (fun j i q h => hi j i q ?_)⟩
      · subst em e; simp [bos]
      · subst em e; simp [ios]
      · cases m <;> cases p <;> simp only [bos] <;> first | exact h | exact List.mem_cons_of_mem _ h
      · cases m <;> cases p <;> simp only [ios] <;> first | exact h | exact List.mem_cons_of_mem _ h
end
end SL

set_option Elab.async false
set_option linter.all false
set_option maxRecDepth 100000
set_option maxHeartbeats 4000000
/-! SL12: calls of defs. -/
namespace SL
open PySem PySem.Spec PyProof.Rows L2
section
variable {K : PySem.W.Frag} {c : Ct} {B H B' H' : Hp} {S S2 : List T} {σ : L2.St} {F G : List Addr} {ms : List Md} {ps : List P} {vs : List V} {ts' : List T}
theorem Rep.keepG {R : Hp} (r : Rep K R B H S σ) (sb : Sub B B') (bh : Sub B' H') (hG : ∀ b ∈ G, b ∉ feet S ∧ R b = none) (kp : ∀ b o, b ∉ G → H b = some o → H' b = some o) (hB : ∀ b ∈ feet S, B' b = none) : Rep K R B' H' S σ :=
  ⟨bh, fun b o hb => kp b o (fun w => by rw [(hG b w).2] at hb; cases hb) (r.rh b o hb), r.nd, hB, r.rf, r.len, fun i t e => (r.sl i t e).imp id fun ⟨v, hv, hr⟩ => ⟨v, hv, hr.mono sb fun b o hb hh => kp b o (fun w => (hG b w).1 (feet_mem e hb)) hh⟩⟩
theorem callB_all (h : callB S ms ps = true) : ps.all owClean = true := by
  unfold callB at h; exact (Bool.and_eq_true_iff.mp h).1
theorem callB_ios (h : callB S ms ps = true) : ios 0 ms ps = [] ∨ ∃ j i q t, ios 0 ms ps = [(j, i, q)] ∧ i ∉ bos ms ps ∧ node S i q = some t ∧ clean t = true := by
  unfold callB at h
  have h := (Bool.and_eq_true_iff.mp h).2
  split at h
  · rename_i e; exact .inl e
  · rename_i j i q e
    obtain ⟨h1, h2⟩ := Bool.and_eq_true_iff.mp h
    cases z : node S i q with
    | none => rw [z] at h2; cases h2
    | some t => rw [z] at h2; exact .inr ⟨j, i, q, t, e, by simpa using h1, z, h2⟩
  · cases h
theorem call_off (ok : Ok K c B H S σ) (r : RepPs K c.R B H S ps vs) : ∀ a ∈ feet (args S ms ps), B a = none ∧ c.R a = none ∧ H a ≠ none := fun a ha => by
  rcases args_foot (n := 0) a ha with z | ⟨j, i, q, t, _, e, z⟩
  · obtain ⟨h1, h2, h3, h4⟩ := r.foot a z
    exact ⟨h3, h4, h1⟩
  · have := node_feet e a z
    exact ⟨ok.rep.bf a this, ok.rep.rf a this, ok.rep.feet_some this⟩
theorem call_args (ok : Ok K c B H S σ) (r : RepPs K c.R B H S ps vs) (hb : callB S ms ps = true) : ArgsOk K (hide H (feet (args S ms ps))) B H (args S ms ps) vs := by
  have hF : ∀ a ∈ feet (args S ms ps), B a = none ∧ c.R a = none := fun a ha => ⟨(call_off ok r a ha).1, (call_off ok r a ha).2.1⟩
  refine ⟨ok.rep.bh, hide_sub, args_nd (n := 0) ok.rep r ?_, fun a ha => (hF a ha).1, fun a ha => hide_in ha, ?_⟩
  · rcases callB_ios hb with e | ⟨j, i, q, t, e, _⟩ <;> rw [e] <;> simp
  · refine args_rep (n := 0) ok.rep hF r (callB_all hb) (fun i hi t et a ha hz => ?_) fun j i q hm t et => ?_
    · rcases args_foot (n := 0) a ha with z | ⟨j, i', q', t', hm, en, z⟩
      · exact (r.foot a z).2.1 (feet_mem et hz)
      · rcases callB_ios hb with e | ⟨j2, i2, q2, t2, e, hn, en2, _⟩
        · rw [e] at hm; simp at hm
        · rw [e] at hm
          have e3 : (j, i', q') = (j2, i2, q2) := by simpa using hm
          cases e3
          obtain ⟨u, eu, hu⟩ := node_slot en
          have := feet_uniq ok.rep.nd et eu hz (hu a z)
          subst this
          exact hn hi
    · rcases callB_ios hb with e | ⟨j2, i2, q2, t2, e, hn, en2, hc⟩
      · rw [e] at hm; simp at hm
      · rw [e] at hm
        have e3 : (j, i, q) = (j2, i2, q2) := by simpa using hm
        cases e3
        rw [en2] at et
        cases et
        exact hc
theorem call_back (ok : Ok K c B H S σ) (tr0 : Tr c.B0 c.H0 c.F0 B H (feet S ++ feetP ps)) (r : RepPs K c.R B H S ps vs) (hb : callB S ms ps = true) (tr : Tr B H (feet (args S ms ps)) B' H' (feet ts' ++ G))
    (ao : ArgsOk K (hide H (feet (args S ms ps))) B' H' ts' vs) (e : back S ms ps ts' = some S2) : Ok K c B' H' S2 σ ∧ Tr B H (feet S ++ feetP ps) B' H' (feet S2 ++ G) ∧ ∀ a ∈ feet S2, (∃ j i q u, ios 0 ms ps = [(j, i, q)] ∧ ts'[j]? = some u ∧ a ∈ foot u) ∨ (a ∈ feet S ∧ a ∉ feet (args S ms ps)) := by
  have off : ∀ a ∈ feet (args S ms ps), B a = none ∧ c.R a = none ∧ H a ≠ none := call_off ok r
  have hin : ∀ a ∈ feet (args S ms ps), a ∈ feet S ++ feetP ps := fun a ha => by
    rcases args_foot (n := 0) a ha with z | ⟨j, i, q, t, _, e, z⟩
    · exact List.mem_append_right _ z
    · exact List.mem_append_left _ (node_feet e a z)
  have fin : Rep K c.R B' H' S2 σ → (∀ a ∈ feet S2, (∃ j i q u, ios 0 ms ps = [(j, i, q)] ∧ ts'[j]? = some u ∧ a ∈ foot u) ∨ (a ∈ feet S ∧ a ∉ feet (args S ms ps))) → Ok K c B' H' S2 σ ∧ Tr B H (feet S ++ feetP ps) B' H' (feet S2 ++ G) ∧ ∀ a ∈ feet S2, (∃ j i q u, ios 0 ms ps = [(j, i, q)] ∧ ts'[j]? = some u ∧ a ∈ foot u) ∨ (a ∈ feet S ∧ a ∉ feet (args S ms ps)) := fun rep hS => by
    have t : Tr B H (feet S ++ feetP ps) B' H' (feet S2 ++ G) := by
      refine ⟨tr.sub, fun a o ha ho => tr.keep a o (fun z => ha (hin a z)) ho, fun a ha => ?_, fun a o ho => ?_, tr.there⟩
      · rcases List.mem_append.mp ha with z | z
        · rcases hS a z with ⟨j, i, q, u, _, e2, y⟩ | y
          · exact (tr.foot a (List.mem_append_left _ (feet_mem e2 y))).imp (hin a) id
          · exact .inl (List.mem_append_left _ y.1)
        · exact (tr.foot a (List.mem_append_right _ z)).imp (hin a) id
      · exact (tr.base a o ho).imp id fun z => z.imp (hin a) id
    exact ⟨⟨rep, (tr0.trans t).left⟩, t, hS⟩
  have hBS : ∀ b ∈ feet S, b ∉ feet (args S ms ps) → B' b = none := fun b hb1 hb2 => by
    cases z : B' b with
    | none => rfl
    | some o =>
      rcases tr.base b o z with y | y | y
      · rw [ok.rep.bf b hb1] at y; cases y
      · exact absurd y hb2
      · exact absurd y (ok.rep.feet_some hb1)
  rcases callB_ios hb with ei | ⟨j, i, q, t, ei, hn, en, hc⟩
  · unfold back at e
    rw [ei] at e
    have e : S = S2 := Option.some.inj e
    subst e
    have hG : ∀ a ∈ feet (args S ms ps), a ∉ feet S ∧ c.R a = none := fun a ha => by
      rcases args_foot (n := 0) a ha with z | ⟨j, i, q, t, z, _⟩
      · exact ⟨(r.foot a z).2.1, (r.foot a z).2.2.2⟩
      · rw [ei] at z; simp at z
    exact fin (ok.rep.keepG tr.sub ao.bh hG (fun b o h1 h2 => tr.keep b o h1 h2) fun b hb1 => hBS b hb1 fun z => (hG b z).1 hb1) fun a ha => .inr ⟨ha, fun z => (hG a z).1 ha⟩
  · unfold back at e
    rw [ei] at e
    simp only at e
    cases eu : ts'[j]? with
    | none => rw [eu] at e; cases e
    | some u =>
      rw [eu] at e
      have e : (if clean u = true then putN S i q u else none) = some S2 := e
      by_cases hcu : clean u = true
      · rw [if_pos hcu] at e
        have hj : ps[j]? = some (.at i q) := by
          have := (ios_get (n := 0) (j := j) (i := i) (q := q) (ms := ms) (ps := ps) (by rw [ei]; simp)).2
          simpa using this
        -- the value there
        have hv : ∃ a0, adr t = some a0 ∧ vs[j]? = some (.ref a0) := by
          have aux : ∀ {ps : List P} {vs : List V} {j : Nat}, RepPs K c.R B H S ps vs → ps[j]? = some (.at i q) → ∃ v, vs[j]? = some v ∧ RepP K c.R B H S (.at i q) v := by
            intro ps vs j rs
            induction rs generalizing j with
            | nil => intro z; simp at z
            | @cons p v ps vs r d _ ih =>
              intro z
              cases j with
              | zero =>
                have z : p = .at i q := by simpa using z
                subst z
                exact ⟨v, rfl, r⟩
              | succ j =>
                obtain ⟨w, h1, h2⟩ := ih (j := j) (by simpa using z)
                exact ⟨w, by simpa using h1, h2⟩
          obtain ⟨v, h1, h2⟩ := aux r hj
          unfold RepP at h2
          obtain ⟨t', a0, h3, h4, rfl⟩ := h2
          rw [en] at h3
          cases h3
          exact ⟨a0, h4, h1⟩
        obtain ⟨a0, ea, hvj⟩ := hv
        have ru : RepT K c.R B' H' u (.ref a0) := by
          obtain ⟨w, h1, h2⟩ := ao.rep.get eu
          rw [hvj] at h1
          cases h1
          exact h2.reR hcu
        have uf : ∀ a ∈ foot u, a ∈ feet ts' := fun a ha => feet_mem eu ha
        have argt : ∀ a ∈ feet (args S ms ps), a ∈ feetP ps ∨ a ∈ foot t := fun a ha => by
          rcases args_foot (n := 0) a ha with z | ⟨j', i', q', t', z, en', h⟩
          · exact .inl z
          · rw [ei] at z
            have e3 : (j', i', q') = (j, i, q) := by simpa using z
            cases e3
            rw [en] at en'
            cases en'
            exact .inr h
        have targ : ∀ a ∈ foot t, a ∈ feet (args S ms ps) := fun a ha => by
          have aux : ∀ {ms : List Md} {ps : List P} {n : Nat}, (j, i, q) ∈ ios n ms ps → a ∈ feet (args S ms ps) := by
            intro ms ps
            induction ps generalizing ms with
            | nil => intro n h; cases ms <;> simp [ios] at h
            | cons p ps ih =>
              intro n h
              cases ms with
              | nil => simp [ios] at h
              | cons m ms =>
                simp only [args, feet]
                have nx : (j, i, q) ∈ ios (n + 1) ms ps → a ∈ foot (argT S m p) ++ feet (args S ms ps) := fun h => List.mem_append_right _ (ih h)
                cases m <;> cases p <;> simp only [ios] at h <;> first | exact nx h | skip
                rcases List.mem_cons.mp h with z | z
                · cases z
                  refine List.mem_append_left _ ?_
                  simp only [argT, en, Option.getD_some]
                  exact ha
                · exact nx z
          exact aux (n := 0) (by rw [ei]; simp)
        obtain ⟨rep, hS⟩ := ok.rep.putG (B' := B') (H' := H') (G := feetP ps) en ea e tr.sub ao.bh (fun w hw => by rw [hw.adr ea]; exact ru) (foot_nodup_of ao.nd eu)
          (fun a ha => by
            rcases tr.foot a (List.mem_append_left _ (uf a ha)) with z | z
            · rcases argt a z with y | y
              · exact .inr (r.foot a y).2.1
              · exact .inl y
            · exact .inr fun y => ok.rep.feet_some y z)
          (fun a ha => ⟨ao.bf a (uf a ha), by
            rcases tr.foot a (List.mem_append_left _ (uf a ha)) with z | z
            · exact (off a z).2.1
            · exact none_of_sub ok.rep.rh z⟩)
          (fun b hb1 => ⟨(r.foot b hb1).2.1, (r.foot b hb1).2.2.2⟩)
          (fun b o h1 h2 h3 => tr.keep b o (fun z => (argt b z).elim h2 h1) h3)
          (fun b hb1 hb2 => hBS b hb1 fun z => (argt b z).elim (fun y => (r.foot b y).2.1 hb1) hb2)
        refine fin rep fun a ha => ?_
        rcases hS a ha with z | ⟨z, y⟩
        · exact .inl ⟨j, i, q, u, ei, eu, z⟩
        · exact .inr ⟨z, fun w => (argt a w).elim (fun x => (r.foot a x).2.1 z) y⟩
      · rw [if_neg hcu] at e; cases e
def rOk : P → Bool
  | .sh _ => true
  | .ow t => clean t
  | _ => false
theorem res_back {ps : List P} {vs : List V} {p : P} {v : V} (ok : Ok K c B H S σ) (r : RepPs K c.R B H S ps vs) (tr : Tr B H (feet (args S ms ps)) B' H' (feet ts' ++ footP p)) (hS : ∀ a ∈ feet S2, a ∈ feet ts' ∨ (a ∈ feet S ∧ a ∉ feet (args S ms ps)))
    (hp : rOk p = true) (rp : RepP K (hide H (feet (args S ms ps))) B' H' ts' p v) : RepP K c.R B' H' S2 p v := by
  cases p with
  | sh d => exact rp
  | br d => cases hp
  | «at» i q => cases hp
  | ow t =>
    unfold RepP at rp ⊢
    refine ⟨rp.1.reR hp, rp.2.1, fun a ha => ⟨fun z => ?_, (rp.2.2 a ha).2.1, ?_⟩⟩
    · rcases hS a z with y | ⟨y, x⟩
      · exact (rp.2.2 a ha).1 y
      · rcases tr.foot a (List.mem_append_right _ ha) with w | w
        · exact x w
        · exact ok.rep.feet_some y w
    · rcases tr.foot a (List.mem_append_right _ ha) with w | w
      · exact (call_off ok r a w).2.1
      · exact none_of_sub ok.rep.rh w
/-- the call with values -/
def wCal (C : Con) (ms : List Md) : List T → List P → KP → KE → Prop := fun S ps Kp Ke => callB S ms ps = true ∧ C (args S ms ps) (fun p ts' => rOk p = true ∧ optK (back S ms ps ts') fun S2 => Kp p S2) (fun ev ts' => optK (back S ms ps ts') fun S2 => Ke ev S2)
theorem cal_ok {n : Nat} {C : Con} {Kp : KP} {Ke : KE} {Q : VK} (ok : Ok K c B H S σ) (tr0 : Tr c.B0 c.H0 c.F0 B H (feet S ++ feetP ps)) (r : RepPs K c.R B H S ps vs) (hl : vs.length = n) (h : wCal C ms S ps Kp Ke) (post : Post K c B H S (feetP ps) σ Kp Q) :
    SpI K n C vs H Q (L2.WE (wxS K c Ke) σ) := by
  obtain ⟨hb, hC⟩ := h
  refine ⟨_, _, B, _, _, hl, call_args ok r hb, hC, fun p ts' v B' H' hk tr ao rp => ?_, fun ev ts' cls d B' H' hk tr ao he => ?_⟩
  · obtain ⟨S2, e, hk2⟩ := optK_some hk.2
    obtain ⟨h1, h2, h3⟩ := call_back ok tr0 r hb tr ao e
    exact post p S2 v B' H' hk2 h1 h2 (res_back ok r tr (fun a ha => (h3 a ha).imp (fun ⟨_, _, _, _, _, e, z⟩ => feet_mem e z) id) hk.1 rp)
  · obtain ⟨S2, e, hk2⟩ := optK_some hk
    obtain ⟨h1, h2, h3⟩ := call_back (G := []) ok tr0 r hb (by rw [List.append_nil]; exact tr) ao e
    exact ⟨ev, S2, B', hk2, h1, he⟩
theorem reps_len {R : Hp} (r : RepPs K R B H S ps vs) : vs.length = ps.length := by
  induction r with
  | nil => rfl
  | cons _ _ _ ih => simp [ih]
end

/-! ### rules -/
def wCall (n : Nat) (C : Con) (ms : List Md) (fa : WA) : WE := fun S Kp Ke => fa S (fun ps S1 => ps.length = n ∧ wCal C ms S1 ps Kp Ke) Ke
section
variable {X : Cx} {c : Ct} {Ke : KE} {e : Expr} {es : List Expr} {fa : WA} {k : Nat} {f : Addr} {fd : FuncData} {pr : List Str} {n : Nat} {C : Con} {x : Str} {p pos : Pos}
theorem i_call (ms : List Md) (F : FnOk X.prog X.w X.K X.mg X.base (L2.CX X.prog X.w) k f fd pr (SpI X.K n C)) (hr : Room k X.A) (hg : Gl X x) (hm : X.mg x = some (.ref f)) (hk : PySem.W.keepIn X.K (.ref f) = true) (hb : Binds X.K fd pr []) (tk : Takes X (wxS X.K c Ke))
    (ha : PA X (e :: es) (tA X.K c Ke fa)) (hdb : (x == ("__debug__" : Str)) = false := by decide) (he : starEach (e :: es) X.env = (false, eval e X.env) :: starEach es X.env := by rfl) (hpl : (backTo pos (starEach es X.env)).any (·.1) = false := by rfl) :
    PE X (.Call (.Name x p) (e :: es) [] pos) (tE X.K c Ke (wCall n C ms fa)) := by
  refine wkE (pe_callS F hr hg hm hk hb (fun σ => passAt tk σ) ha hdb he hpl) ?_
  rintro σ H Q ⟨S, B, Kp, ok, hf, post⟩
  refine ⟨S, B, _, ok, hf, fun ps S1 vs B1 H1 h1 ok1 t1 r1 => ?_⟩
  exact cal_ok (n := n) ok1 (ok.tr.trans t1) r1 ((reps_len r1).trans h1.1) h1.2 (post_after t1 post)
end
end SL

set_option Elab.async false
set_option linter.all false
set_option maxRecDepth 100000
set_option maxHeartbeats 4000000
/-! SL13: methods, constructors, properties, fields. -/
namespace SL
open PySem PySem.Spec PyProof.Rows L2

theorem fpos_none {f : Str} : ∀ {ns : List Str} {ws : List V}, fpos f ns = none → (ns.zip ws).lookup f = none
  | [], _, _ => rfl
  | g :: ns, [], _ => rfl
  | g :: ns, x :: ws, h => by
    simp only [fpos] at h
    by_cases q : f = g
    · rw [if_pos q] at h; cases h
    · rw [if_neg q] at h
      have hb : (f == g) = false := beq_eq_false_iff_ne.mpr q
      rw [List.zip_cons_cons]
      simp only [List.lookup, hb]
      exact fpos_none (by cases z : fpos f ns with
        | none => rfl
        | some k => rw [z] at h; cases h)
/-- an instance of C without a field m -/
def hasM (C : Addr) (m : Str) : D → Prop
  | .ins C' ns _ => C' = C ∧ fpos m ns = none
  | _ => False
def isIns (C : Addr) : D → Prop
  | .ins C' _ _ => C' = C
  | _ => False
theorem isIns_at {K : PySem.W.Frag} {H : Hp} {C : Addr} {d : D} {v : V} (h : isIns C d) (r : RepD K H d v) : ∃ a dx fs, v = .ref a ∧ H a = some (.ins C dx fs) := by
  cases d <;> first | exact h.elim | skip
  have h : _ = C := h
  subst h
  unfold RepD at r
  obtain ⟨a, dx, ws, rfl, h2, _, _⟩ := r
  exact ⟨a, dx, _, rfl, h2⟩
theorem hasM_at {K : PySem.W.Frag} {H : Hp} {C : Addr} {m : Str} {d : D} {v : V} (h : hasM C m d) (r : RepD K H d v) : ∃ a dx fs, v = .ref a ∧ H a = some (.ins C dx fs) ∧ fs.lookup m = none := by
  cases d <;> first | exact h.elim | skip
  obtain ⟨rfl, h⟩ := h
  unfold RepD at r
  obtain ⟨a, dx, ws, rfl, h2, _, _⟩ := r
  exact ⟨a, dx, _, rfl, h2, fpos_none h⟩
def tMethS (C : Addr) (m : Str) (sp : Sp) (E : L2.St → XK) (ta : TE) (t : TA) : TE := fun σ H Q => ta σ H fun x H1 => ∃ a dx fs, x = .ref a ∧ H1 a = some (.ins C dx fs) ∧ fs.lookup m = none ∧ t σ H1 fun vs H2 => sp (x :: vs) H2 Q (E σ)
def tMakeS (C : Addr) (sp : Sp) (E : L2.St → XK) (t : TA) : TE := fun σ H Q => t σ H fun vs H1 => ∀ x dx, H1 x = none → H1 dx = none → dx ≠ x →
  sp (.ref x :: vs) (upd (upd H1 dx (.own x)) x (.ins C dx [])) (fun v H2 => v = .non ∧ Q (.ref x) H2) (E σ)
section
variable {X : Cx} {CX : CXT} {k : Nat} {f C : Addr} {fd : FuncData} {ps : List Str} {sp : Sp} {E : L2.St → XK} {x m : Str} {p pos apos : Pos} {e o : Expr} {es : List Expr} {ta : TE} {t : TA}
theorem pe_methS {pl : Sem Bool} (he : PE X o ta) (c : Cls X.K C) (hm : Meth X.K C m f) (F : FnOk X.prog X.w X.K X.mg X.base CX k f fd ps sp) (hr : Room k X.A) (hb : Binds X.K fd ps []) (hx : ∀ σ, PassesAt CX X σ (E σ)) (ha : PA X (e :: es) t)
    (hst : starEach (e :: es) X.env = (false, eval e X.env) :: starEach es X.env := by rfl) (hpl : (backTo pos (starEach es X.env)).any (·.1) = false := by rfl)
    (ht : eval (.Call (.Attribute o m apos) (e :: es) [] pos) X.env = (do
      let ov ← eval o X.env
      standAt apos.atName
      let (f, first) ← holding [ov] (getMethod ov m pl)
      callWith pos f first (backTo pos (starEach (e :: es) X.env)) (backToKw pos (keywordEach [] X.env))) := by rfl) :
    PE X (.Call (.Attribute o m apos) (e :: es) [] pos) (tMethS C m sp E ta t) := by
  refine ⟨fun pins s σ H Q I h => ?_⟩
  refine PySem.W.methodCall_KW (pl := pl) (thn (he.run pins s σ H _ I h) fun u s1 ⟨x, H1, I1, rx, a, dx, fs, ex, ea, l, q⟩ => ?_) ht
  subst ex
  obtain rfl : u = Value.ref a := rx
  refine getmeth_ok I1 ea c hm l ?_
  refine PySem.W.callWith_K (first := [.ref a]) (h₀ := X.base) I.ok.mod.kin hm.kp (thn (ha.run pos pins s1 σ H1 _ I1 q) fun us s2 ⟨vs, H2, I2, r, q2⟩ => ⟨I2.kIn, ?_⟩) hst hpl
  exact run_fnS (us := .ref a :: us) (vs := .ref a :: vs) F hr hb (hx σ) I2 (.cons rfl r) q2
theorem pe_methS0 {pl : Sem Bool} (he : PE X o ta) (c : Cls X.K C) (hm : Meth X.K C m f) (F : FnOk X.prog X.w X.K X.mg X.base CX k f fd ps sp) (hr : Room k X.A) (hb : Binds X.K fd ps []) (hx : ∀ σ, PassesAt CX X σ (E σ))
    (ht : eval (.Call (.Attribute o m apos) [] [] pos) X.env = (do
      let ov ← eval o X.env
      standAt apos.atName
      let (f, first) ← holding [ov] (getMethod ov m pl)
      callWith pos f first (backTo pos (starEach [] X.env)) (backToKw pos (keywordEach [] X.env))) := by rfl) :
    PE X (.Call (.Attribute o m apos) [] [] pos) (tMethS C m sp E ta tNil) := by
  refine ⟨fun pins s σ H Q I h => ?_⟩
  refine PySem.W.methodCall_KW (pl := pl) (thn (he.run pins s σ H _ I h) fun u s1 ⟨x, H1, I1, rx, a, dx, fs, ex, ea, l, q⟩ => ?_) ht
  subst ex
  obtain rfl : u = Value.ref a := rx
  refine getmeth_ok I1 ea c hm l ?_
  exact PySem.W.callWith_K0 (first := [.ref a]) I1.kIn hm.kp (run_fnS (us := [.ref a]) (vs := [.ref a]) F hr hb (hx σ) I1 (.cons rfl .nil) q)
theorem run_makeS {pins : List (Addr × Obj)} {σ : L2.St} {H : Hp} {s : Shared} {Q : VK} {us : List Value} {vs : List V} (M : Mk X.K C f) (F : FnOk X.prog X.w X.K X.mg X.base CX k f fd ps sp) (hr : Room (k + 1) X.A) (hb : Binds X.K fd ps [])
    (hx : PassesAt CX X σ (E σ)) (I : Inv X pins σ H s) (r : Vals vs us)
    (h : ∀ x dx, H x = none → H dx = none → dx ≠ x → sp (.ref x :: vs) (upd (upd H dx (.own x)) x (.ins C dx [])) (fun v H2 => v = .non ∧ Q (.ref x) H2) (E σ)) :
    wpAny (model X.prog X.w) X.A (call (.ref C) us) (EP X pins σ Q) X.xe s := by
  have hq := h (s.heap.objs.size + 1) s.heap.objs.size (I.hok.fresh (Nat.le_succ _)) (I.hok.fresh (Nat.le_refl _)) (Nat.ne_of_lt (Nat.lt_succ_self _))
  have I2 := Inv.made (C := C) I
  have r2 : Vals (V.ref (s.heap.objs.size + 1) :: vs) (Value.ref (s.heap.objs.size + 1) :: us) := .cons rfl r
  have hl : (Value.ref (s.heap.objs.size + 1) :: us).length = ps.length := by
    have e := r2.length
    rw [F.len _ _ _ _ hq] at e
    exact e.symm
  have b := hb { s with heap := (s.heap.push { cls := .type "dict", data := .dict #[] }).push { cls := .ref C, dict := some s.heap.objs.size, data := .plain } } (Value.ref (s.heap.objs.size + 1) :: us) I2.kIn (by rw [List.append_nil]; exact hl)
  rw [List.append_nil] at b
  refine wpAny_call (make_map (f := f) I.kIn M.makes M.init (beq_iff_eq.mp M.fn) (codeAny_mono (F.run _ X.stack _ _ ⟨Value.ref (s.heap.objs.size + 1) :: us, []⟩ (Value.ref (s.heap.objs.size + 1) :: us) _ _ (E σ) (hr.make C us [])
    (I2.env0.make C us []) b r2 hq) fun r s' hq' => ?_))
  cases r with
  | error e => exact hx pins _ _ e s' I2 hq'
  | ok fl =>
    cases fl with
    | ret u =>
      obtain ⟨v, H', I3, rv, ev, q3⟩ := I2.after hq'
      subst ev
      exact ⟨rv, ⟨V.ref (s.heap.objs.size + 1), H', I3, rfl, q3⟩⟩
    | next => exact False.elim hq'
    | brk => exact False.elim hq'
    | cont => exact False.elim hq'
theorem pe_makeS (M : Mk X.K C f) (F : FnOk X.prog X.w X.K X.mg X.base CX k f fd ps sp) (hr : Room (k + 1) X.A) (hg : Gl X x) (hm : X.mg x = some (.ref C)) (hb : Binds X.K fd ps []) (hx : ∀ σ, PassesAt CX X σ (E σ))
    (ha : PA X (e :: es) t) (hdb : (x == ("__debug__" : Str)) = false := by decide) (he : starEach (e :: es) X.env = (false, eval e X.env) :: starEach es X.env := by rfl) (hpl : (backTo pos (starEach es X.env)).any (·.1) = false := by rfl) :
    PE X (.Call (.Name x p) (e :: es) [] pos) (tMakeS C sp E t) := by
  refine ⟨fun pins s σ H Q I h => ?_⟩
  refine wpAny_Call_Name_kw (ld_glob I hg hm ?_ hdb)
  refine PySem.W.callWith_K (h₀ := X.base) I.ok.mod.kin M.kp (thn (ha.run pos pins s σ H _ I h) fun us s1 ⟨vs, H1, I1, r, q⟩ => ⟨I1.kIn, ?_⟩) he hpl
  exact run_makeS M F hr hb (hx σ) I1 r q
end

/-! ### methods -/
def wMeth (C : Addr) (m : Str) (n : Nat) (Cn : Con) (ms : List Md) (f : WE) (fa : WA) : WE := fun S Kp Ke => f S (fun p S1 => hasM C m (pk S1 p) ∧ fa S1 (fun ps S2 => okAt p S1 S2 ∧ (p :: ps).length = n ∧ wCal Cn ms S2 (p :: ps) Kp Ke) Ke) Ke
section
variable {X : Cx} {c : Ct} {Ke : KE} {o e : Expr} {es : List Expr} {fo : WE} {fa : WA} {k : Nat} {f C : Addr} {fd : FuncData} {pr : List Str} {n : Nat} {Cn : Con} {x m : Str} {p pos apos : Pos}
theorem meth_of : ∀ σ H Q, tE X.K c Ke (wMeth C m n Cn ms fo fa) σ H Q → tMethS C m (SpI X.K n Cn) (L2.WE (wxS X.K c Ke)) (tE X.K c Ke fo) (tA X.K c Ke fa) σ H Q := by
  rintro σ H Q ⟨S, B, Kp, ok, hf, post⟩
  refine ⟨S, B, _, ok, hf, fun p S1 v B1 H1 h1 ok1 t1 r1 => ?_⟩
  obtain ⟨a, dx, fs, rfl, ha, hl⟩ := hasM_at h1.1 (ok1.rep.pk r1)
  refine ⟨a, dx, fs, rfl, ha, hl, S1, B1, _, ok1, h1.2, fun ps S2 vs B2 H2 h2 ok2 t2 r2 => ?_⟩
  have t1 := t1.nil
  have rs : RepPs X.K c.R B2 H2 S2 (p :: ps) (.ref a :: vs) := .cons (r1.mv t2.left h2.1) (fun a ha hq => r1.off t2 ha (List.mem_append_right _ hq)) r2
  have t3 := (t1.temp t2).perm (G := feet S2 ++ feetP (p :: ps)) fun a ha => mem_swap ha
  exact cal_ok ok2 (ok.tr.trans t3) rs ((reps_len rs).trans h2.2.1) h2.2.2 (post_after t3 post)
theorem i_meth {pl : Sem Bool} (ms : List Md) (he : PE X o (tE X.K c Ke fo)) (cl : Cls X.K C) (hm : Meth X.K C m f) (F : FnOk X.prog X.w X.K X.mg X.base (L2.CX X.prog X.w) k f fd pr (SpI X.K n Cn)) (hr : Room k X.A) (hb : Binds X.K fd pr []) (tk : Takes X (wxS X.K c Ke)) (ha : PA X (e :: es) (tA X.K c Ke fa))
    (hst : starEach (e :: es) X.env = (false, eval e X.env) :: starEach es X.env := by rfl) (hpl : (backTo pos (starEach es X.env)).any (·.1) = false := by rfl)
    (ht : eval (.Call (.Attribute o m apos) (e :: es) [] pos) X.env = (do
      let ov ← eval o X.env
      standAt apos.atName
      let (f, first) ← holding [ov] (getMethod ov m pl)
      callWith pos f first (backTo pos (starEach (e :: es) X.env)) (backToKw pos (keywordEach [] X.env))) := by rfl) :
    PE X (.Call (.Attribute o m apos) (e :: es) [] pos) (tE X.K c Ke (wMeth C m n Cn ms fo fa)) :=
  wkE (pe_methS he cl hm F hr hb (fun σ => passAt tk σ) ha hst hpl ht) meth_of
theorem tNil_of : ∀ σ H (Q : List V → Hp → Prop), tA X.K c Ke wNil σ H Q → tNil σ H Q := by
  rintro σ H Q ⟨S, B, Kp, ok, hf, post⟩
  exact post [] S [] B H hf ok (Tr.refl _ _ _).nil' .nil
theorem i_meth0 {pl : Sem Bool} (ms : List Md) (he : PE X o (tE X.K c Ke fo)) (cl : Cls X.K C) (hm : Meth X.K C m f) (F : FnOk X.prog X.w X.K X.mg X.base (L2.CX X.prog X.w) k f fd pr (SpI X.K n Cn)) (hr : Room k X.A) (hb : Binds X.K fd pr []) (tk : Takes X (wxS X.K c Ke))
    (ht : eval (.Call (.Attribute o m apos) [] [] pos) X.env = (do
      let ov ← eval o X.env
      standAt apos.atName
      let (f, first) ← holding [ov] (getMethod ov m pl)
      callWith pos f first (backTo pos (starEach [] X.env)) (backToKw pos (keywordEach [] X.env))) := by rfl) :
    PE X (.Call (.Attribute o m apos) [] [] pos) (tE X.K c Ke (wMeth C m n Cn ms fo wNil)) := by
  refine wkE (pe_methS0 he cl hm F hr hb (fun σ => passAt tk σ) ht) fun σ H Q h => ?_
  obtain ⟨S, B, Kp, ok, hf, post⟩ := meth_of σ H Q h
  refine ⟨S, B, Kp, ok, hf, fun p S1 v B1 H1 h1 ok1 t1 r1 => ?_⟩
  obtain ⟨a, dx, fs, rfl, ha, hl, q⟩ := post p S1 v B1 H1 h1 ok1 t1 r1
  exact ⟨a, dx, fs, rfl, ha, hl, tNil_of _ _ _ q⟩
/-! ### properties -/
def wProp (C : Addr) (Cn : Con) (md : Md) (f : WE) : WE := fun S Kp Ke => f S (fun p S1 => isIns C (pk S1 p) ∧ wCal Cn [md] S1 [p] Kp noEx) Ke
theorem i_prop {pa : Addr} (md : Md) (he : PE X e (tE X.K c Ke fo)) (cl : Cls X.K C) (hp : PropOf X.K C m pa f) (F : FnOk X.prog X.w X.K X.mg X.base (L2.CX X.prog X.w) k f fd pr (SpI X.K 1 Cn)) (hr : Room (k + 1) X.A) (hb : Binds X.K fd pr [])
    (hab : attributeBase e m X.env (eval e X.env) = eval e X.env := by rfl) : PE X (.Attribute e m pos) (tE X.K c Ke (wProp C Cn md fo)) := by
  refine wkE (pe_prop (dvs := []) (ds := []) (E := fun _ _ _ => False) he cl hp F hr hb .nil (fun pins σ H s e s' I hc => ?_) hab) ?_
  · obtain ⟨_, _, _, _, _, _, _, _, _, _, _, _, h⟩ := hc
    exact h.elim
  · rintro σ H Q ⟨S, B, Kp, ok, hf, post⟩
    refine ⟨S, B, _, ok, hf, fun p S1 v B1 H1 h1 ok1 t1 r1 => ?_⟩
    obtain ⟨a, dx, fs, rfl, ha⟩ := isIns_at h1.1 (ok1.rep.pk r1)
    refine ⟨a, dx, fs, rfl, ha, ?_⟩
    have t1 : Tr B H (feet S) B1 H1 (feet S1 ++ feetP [p]) := by
      have := t1.nil
      simpa [feetP] using this
    have rs : RepPs X.K c.R B1 H1 S1 [p] [.ref a] := .cons r1 (fun a ha hq => by simp [feetP] at hq) .nil
    obtain ⟨ts, R, B', Kr, Kx, q1, q2, q3, q4, q5⟩ := cal_ok (n := 1) ok1 (ok.tr.trans t1) rs rfl h1.2 (post_after t1 post)
    refine ⟨ts, R, B', Kr, Kx, q1, q2, q3, q4, fun ev ts' cls d B2 H2 z1 z2 z3 z4 => ?_⟩
    obtain ⟨_, _, _, z, _⟩ := q5 ev ts' cls d B2 H2 z1 z2 z3 z4
    exact z
end

/-! ### constructors -/
def wMake (C : Addr) (n : Nat) (Cn : Con) (ms : List Md) (fa : WA) : WE := fun S Kp Ke => fa S (fun ps S1 => ps.length + 1 = n ∧ ∀ x, callB S1 (.as :: ms) (.ow (.ins x C [] []) :: ps) = true ∧
  Cn (args S1 (.as :: ms) (.ow (.ins x C [] []) :: ps)) (fun p ts' => p = .sh .non ∧ optK ts'[0]? fun u => clean u = true ∧ adr u = some x ∧ optK (back S1 (.as :: ms) (.ow (.ins x C [] []) :: ps) ts') fun S2 => Kp (.ow u) S2)
    (fun ev ts' => optK (back S1 (.as :: ms) (.ow (.ins x C [] []) :: ps) ts') fun S2 => Ke ev S2)) Ke
theorem zip_nil_iff {ns : List Str} : (ns.zip ([] : List V)) = [] := by cases ns <;> rfl
section
variable {X : Cx} {c : Ct} {Ke : KE} {o e : Expr} {es : List Expr} {fo : WE} {fa : WA} {k : Nat} {f C : Addr} {fd : FuncData} {pr : List Str} {n : Nat} {Cn : Con} {x m : Str} {p pos apos : Pos}
theorem make_of {ms : List Md} : ∀ σ H Q, tE X.K c Ke (wMake C n Cn ms fa) σ H Q → tMakeS C (SpI X.K n Cn) (L2.WE (wxS X.K c Ke)) (tA X.K c Ke fa) σ H Q := by
  rintro σ H Q ⟨S, B, Kp, ok, hf, post⟩
  refine ⟨S, B, _, ok, hf, fun ps S1 vs B1 H1 h1 ok1 t1 r1 => fun x dx hx hdx hne => ?_⟩
  obtain ⟨hn, h1⟩ := h1
  obtain ⟨hb, hC⟩ := h1 x
  obtain ⟨ok2, t2⟩ := ok1.own1 (o := .own x) hdx
  have hx2 : upd H1 dx (.own x) x = none := by rw [upd_ne (Ne.symm hne)]; exact hx
  obtain ⟨ok3, t3⟩ := ok2.own1 (o := .ins C dx []) hx2
  have t13 := t1.trans (t2.trans t3).wide
  have hxS : x ∉ feet S1 := fun z => ok1.rep.feet_some z hx
  have hxB : B1 x = none := none_of_sub ok1.rep.bh hx
  have hxR : c.R x = none := none_of_sub ok1.rep.rh hx
  have rs0 : RepPs X.K c.R B1 (upd (upd H1 dx (.own x)) x (.ins C dx [])) S1 ps vs := r1.mv (t2.trans t3) fun p _ => okAt.refl p S1
  have rs : RepPs X.K c.R B1 (upd (upd H1 dx (.own x)) x (.ins C dx [])) S1 (.ow (.ins x C [] []) :: ps) (.ref x :: vs) := by
    refine .cons ⟨?_, by simp [foot, feet], fun a ha => ?_⟩ (fun a ha hz => ?_) rs0
    · unfold RepT RepTs
      exact ⟨rfl, dx, [], by rw [upd_same]; rfl, rfl, rfl⟩
    · have e : a = x := by simpa [foot, feet] using ha
      subst e
      exact ⟨hxS, hxB, hxR⟩
    · have e : a = x := by simpa [footP, foot, feet] using ha
      subst e
      exact (r1.foot a hz).1 hx
  have tr0 : Tr B1 H1 (feet S1 ++ feetP ps) B1 (upd (upd H1 dx (.own x)) x (.ins C dx [])) (feet S1 ++ feetP (.ow (.ins x C [] []) :: ps)) := by
    have t := (t2.trans t3).wide (G := feetP ps)
    refine ⟨t.sub, t.keep, fun a ha => ?_, t.base, t.there⟩
    rcases List.mem_append.mp ha with z | z
    · exact t.foot a (List.mem_append_left _ z)
    · rcases List.mem_append.mp (by simpa [feetP] using z) with y | y
      · have e : a = x := by simpa [footP, foot, feet] using y
        subst e
        exact .inr hx
      · exact t.foot a (List.mem_append_right _ y)
  have trc := ok.tr.trans (t1.trans tr0)
  refine ⟨_, _, B1, _, _, (reps_len rs).trans hn, call_args ok3 rs hb, hC, fun p ts' v B' H' hk tr ao rp => ?_, fun ev ts' cls d B' H' hk tr ao he => ?_⟩
  · obtain ⟨rfl, hk⟩ := hk
    obtain ⟨u, eu, hcu, hau, hk⟩ := optK_some hk
    obtain ⟨S2, e, hk2⟩ := optK_some hk
    obtain ⟨q1, q2, q3⟩ := call_back (G := []) ok3 trc rs hb (by rw [List.append_nil]; exact tr.left) ao e
    have uf : ∀ a ∈ foot u, a ∈ feet ts' := fun a ha => feet_mem eu ha
    have hv : v = .non := by unfold RepP RepD at rp; exact rp
    refine ⟨hv, post (.ow u) S2 (.ref x) B' H' hk2 q1 ?_ ⟨?_, foot_nodup_of ao.nd eu, fun a ha => ⟨fun z => ?_, ao.bf a (uf a ha), ?_⟩⟩⟩
    · rw [List.append_nil]
      have tt := t1.trans (tr0.trans q2)
      refine ⟨tt.sub, tt.keep, fun a ha => ?_, tt.base, tt.there⟩
      rcases List.mem_append.mp ha with z | z
      · exact tt.foot a (List.mem_append_left _ z)
      · rcases tr.foot a (List.mem_append_left _ (uf a z)) with y | y
        · have := call_off (ms := .as :: ms) ok3 rs a y
          rcases args_foot (n := 0) a y with w | ⟨j, i, q, t, _, en, w⟩
          · exact (t1.trans tr0).foot a (List.mem_append_right _ w)
          · exact (t1.trans tr0).foot a (List.mem_append_left _ (node_feet en a w))
        · exact .inr ((t1.trans tr0).there a y)
    · obtain ⟨w, e1, e2⟩ := ao.rep.get eu
      have e3 : w = .ref x := e2.adr hau
      subst e3
      exact e2.reR hcu
    · rcases q3 a z with ⟨j, i, q, u', ei, eu', y⟩ | ⟨y, y2⟩
      · have hj := (ios_get (ms := ms) (ps := ps) (n := 1) (j := j) (i := i) (q := q) (by
          have : ios 0 (.as :: ms) (.ow (.ins x C [] []) :: ps) = ios 1 ms ps := by simp [ios]
          rw [← this, ei]; simp)).1
        have := feet_uniq ao.nd eu eu' ha y
        omega
      · rcases tr.foot a (List.mem_append_left _ (uf a ha)) with w | w
        · exact y2 w
        · exact ok3.rep.feet_some y w
    · rcases tr.foot a (List.mem_append_left _ (uf a ha)) with w | w
      · exact (call_off ok3 rs a w).2.1
      · exact none_of_sub ok3.rep.rh w
  · obtain ⟨S2, e, hk2⟩ := optK_some hk
    obtain ⟨q1, q2, q3⟩ := call_back (G := []) ok3 trc rs hb (by rw [List.append_nil]; exact tr) ao e
    exact ⟨ev, S2, B', hk2, q1, he⟩
theorem i_make (ms : List Md) (M : Mk X.K C f) (F : FnOk X.prog X.w X.K X.mg X.base (L2.CX X.prog X.w) k f fd pr (SpI X.K n Cn)) (hr : Room (k + 1) X.A) (hg : Gl X x) (hm : X.mg x = some (.ref C)) (hb : Binds X.K fd pr []) (tk : Takes X (wxS X.K c Ke))
    (ha : PA X (e :: es) (tA X.K c Ke fa)) (hdb : (x == ("__debug__" : Str)) = false := by decide) (he : starEach (e :: es) X.env = (false, eval e X.env) :: starEach es X.env := by rfl) (hpl : (backTo pos (starEach es X.env)).any (·.1) = false := by rfl) :
    PE X (.Call (.Name x p) (e :: es) [] pos) (tE X.K c Ke (wMake C n Cn ms fa)) :=
  wkE (pe_makeS M F hr hg hm hb (fun σ => passAt tk σ) ha hdb he hpl) make_of
end
end SL

set_option Elab.async false
set_option linter.all false
set_option maxRecDepth 100000
set_option maxHeartbeats 4000000
/-! SL14: lists and instances that are changed. -/
namespace SL
open PySem PySem.Spec PyProof.Rows L2
section
variable {K : PySem.W.Frag} {c : Ct} {B H : Hp} {S S' : List T} {σ : L2.St} {F : List Addr} {Kp : KP} {Q : VK}
theorem node_nd (rep : Rep K c.R B H S σ) {i : Nat} {q : List Nat} {t : T} (e : node S i q = some t) : (foot t).Nodup := by
  unfold SL.node at e
  cases z : S[i]? with
  | none => rw [z] at e; cases e
  | some t0 =>
    rw [z] at e
    have e3 : t0.at q = some t := e
    have aux : ∀ (q : List Nat) (t0 : T), t0.at q = some t → (SL.foot t0).Nodup → (SL.foot t).Nodup := by
      intro q
      induction q with
      | nil =>
        intro t0 h hn
        have e1 : t0 = t := by simpa [T.at] using h
        subst e1; exact hn
      | cons k q ih =>
        intro t0 h hn
        cases t0 <;> simp only [T.at] at h <;> first | (cases h; done) | skip
        all_goals
          rename_i ts
          cases q3 : ts[k]? with
          | none => rw [q3] at h; cases h
          | some x =>
            rw [q3] at h
            simp only [SL.foot] at hn
            exact ih x h (foot_nodup_of (List.nodup_cons.mp hn).2 q3)
    exact aux q t0 e3 (foot_nodup_of rep.nd z)
/-- an object of a place is written -/
theorem chg {i : Nat} {q : List Nat} {t u : T} {a : Addr} {o : HO} (ok : Ok K c B H S σ) (tr0 : Tr c.B0 c.H0 c.F0 B H (feet S ++ F)) (e : node S i q = some t) (ea : adr t = some a) (e2 : putN S i q u = some S') (ru : RepT K c.R B (upd H a o) u (.ref a)) (hn : (foot u).Nodup)
    (hu : ∀ b ∈ foot u, b ∈ foot t ∨ (b ∈ F ∧ b ∉ feet S ∧ B b = none ∧ c.R b = none)) :
    Ok K c B (upd H a o) S' σ ∧ (∀ G, (∀ b ∈ G, b ∈ foot t ∨ b ∈ F) → Tr B H (feet S ++ F) B (upd H a o) (feet S' ++ G)) ∧ ∀ b ∈ feet S', b ∈ foot u ∨ (b ∈ feet S ∧ b ∉ foot t) := by
  have hat : a ∈ foot t := by
    cases t <;> simp only [adr] at ea <;> first | (cases ea; done) | (cases ea; simp [foot])
  have haS : a ∈ feet S := node_feet e a hat
  have haB := ok.rep.bf a haS
  have sB : Sub B (upd H a o) := fun b x h => by
    by_cases z : b = a
    · subst z; rw [haB] at h; cases h
    · rw [upd_ne z]; exact ok.rep.bh b x h
  have kp : ∀ b x, b ∉ foot t → H b = some x → upd H a o b = some x := fun b x h1 h2 => by
    rw [upd_ne (fun z : b = a => h1 (by rw [z]; exact hat))]; exact h2
  obtain ⟨rep, hS⟩ := ok.rep.put (B' := B) (H' := upd H a o) e ea e2 (Sub.refl B) sB (fun w hw => by rw [hw.adr ea]; exact ru) hn
    (fun b hb => (hu b hb).imp id fun z => z.2.1) (fun b hb => by
      rcases hu b hb with z | z
      · exact ⟨ok.rep.bf b (node_feet e b z), ok.rep.rf b (node_feet e b z)⟩
      · exact z.2.2) kp fun b hb _ => ok.rep.bf b hb
  have t : ∀ G, (∀ b ∈ G, b ∈ foot t ∨ b ∈ F) → Tr B H (feet S ++ F) B (upd H a o) (feet S' ++ G) := fun G hG => by
    refine ⟨Sub.refl B, fun b x hb h => kp b x (fun z => hb (List.mem_append_left _ (node_feet e b z))) h, fun b hb => .inl ?_, fun b x h => .inl h, fun b h => ?_⟩
    · rcases List.mem_append.mp hb with hb | hb
      · rcases hS b hb with z | z
        · rcases hu b z with y | y
          · exact List.mem_append_left _ (node_feet e b y)
          · exact List.mem_append_right _ y.1
        · exact List.mem_append_left _ z.1
      · rcases hG b hb with z | z
        · exact List.mem_append_left _ (node_feet e b z)
        · exact List.mem_append_right _ z
    · by_cases z : b = a
      · subst z; rw [upd_same] at h; cases h
      · rw [upd_ne z] at h; exact h
  exact ⟨⟨rep, (tr0.trans (t [] (fun b hb => by simp at hb))).left⟩, t, hS⟩
/-- a list of a place is written -/
theorem chg_lst {i : Nat} {q : List Nat} {a : Addr} {ts ts' : List T} {ws' : List V} (ok : Ok K c B H S σ) (tr0 : Tr c.B0 c.H0 c.F0 B H (feet S ++ F)) (e : node S i q = some (.lst a ts)) (e2 : putN S i q (.lst a ts') = some S') (ru : RepTs K c.R B H ts' ws') (hn : (feet ts').Nodup)
    (hu : ∀ b ∈ feet ts', b ∈ feet ts ∨ (b ∈ F ∧ b ∉ feet S ∧ B b = none ∧ c.R b = none)) :
    Ok K c B (upd H a (.lst ws')) S' σ ∧ (∀ G, (∀ b ∈ G, b ∈ foot (.lst a ts) ∨ b ∈ F) → Tr B H (feet S ++ F) B (upd H a (.lst ws')) (feet S' ++ G)) ∧ ∀ b ∈ feet S', b ∈ foot (.lst a ts') ∨ (b ∈ feet S ∧ b ∉ foot (.lst a ts)) := by
  have hnd := node_nd ok.rep e
  simp only [foot] at hnd
  have haS : a ∈ feet S := node_feet e a (by simp [foot])
  have hne : ∀ b ∈ feet ts', b ≠ a := fun b hb z => by
    subst z
    rcases hu b hb with y | y
    · exact (List.nodup_cons.mp hnd).1 y
    · exact y.2.1 haS
  refine chg ok tr0 e rfl e2 ?_ ?_ fun b hb => ?_
  · unfold RepT
    exact ⟨rfl, ws', upd_same, ru.mono (Sub.refl B) fun b x hb h => by rw [upd_ne (hne b hb)]; exact h⟩
  · simp only [foot]
    exact List.nodup_cons.mpr ⟨fun z => hne a z rfl, hn⟩
  · rcases List.mem_cons.mp (show b ∈ a :: feet ts' by simpa [foot] using hb) with z | z
    · subst z; exact .inl (by simp [foot])
    · exact (hu b z).imp (fun y => by simp [foot, y]) id
theorem lst_at {i : Nat} {q : List Nat} {a : Addr} {ts : List T} {v : V} (ok : Ok K c B H S σ) (e : node S i q = some (.lst a ts)) (r : RepP K c.R B H S (.at i q) v) : v = .ref a ∧ ∃ ws, H a = some (.lst ws) ∧ RepTs K c.R B H ts ws := by
  unfold RepP at r
  obtain ⟨t, a', e', ea, rfl⟩ := r
  rw [e] at e'
  cases e'
  cases ea
  have := ok.rep.node e rfl
  unfold RepT at this
  exact ⟨rfl, this.2⟩
end

/-! ### feet of rows, again -/
theorem feet_take_drop (ts : List T) (j : Nat) : feet ts = feet (ts.take j) ++ feet (ts.drop j) := by
  rw [← feet_append, List.take_append_drop]
theorem feet_erase : ∀ {ts : List T} {j : Nat} {t : T}, ts[j]? = some t → (feet ts).Nodup → (∀ b ∈ feet (ts.eraseIdx j), b ∈ feet ts ∧ b ∉ foot t) ∧ (feet (ts.eraseIdx j)).Nodup
  | [], _, _, e, _ => by simp at e
  | u :: ts, 0, t, e, h => by
    have e' : u = t := by simpa using e
    subst e'
    simp only [feet] at h
    obtain ⟨h1, h2, h3⟩ := List.nodup_append.mp h
    exact ⟨fun b hb => ⟨by simp [feet, show b ∈ feet ts from hb], fun z => h3 b z b hb rfl⟩, h2⟩
  | u :: ts, j + 1, t, e, h => by
    have e' : ts[j]? = some t := by simpa using e
    simp only [feet] at h
    obtain ⟨h1, h2, h3⟩ := List.nodup_append.mp h
    obtain ⟨i1, i2⟩ := feet_erase e' h2
    simp only [List.eraseIdx_cons_succ, feet]
    refine ⟨fun b hb => ?_, List.nodup_append.mpr ⟨h1, i2, fun a ha b hb z => h3 a ha b (i1 b hb).1 z⟩⟩
    rcases List.mem_append.mp hb with z | z
    · exact ⟨List.mem_append_left _ z, fun y => h3 b z b (feet_mem e' y) rfl⟩
    · exact ⟨List.mem_append_right _ (i1 b z).1, (i1 b z).2⟩

/-! ### methods of lists -/
def atL (S : List T) (p : P) (k : Nat → List Nat → Addr → List T → Prop) : Prop := match p with
  | .at i q => match node S i q with
    | some (.lst a ts) => k i q a ts
    | _ => False
  | _ => False
theorem atL_of {S : List T} {p : P} {k : Nat → List Nat → Addr → List T → Prop} (h : atL S p k) : ∃ i q a ts, p = .at i q ∧ node S i q = some (.lst a ts) ∧ k i q a ts := by
  unfold atL at h
  cases p <;> simp only at h <;> first | exact h.elim | skip
  split at h
  · rename_i e; exact ⟨_, _, _, _, rfl, e, h⟩
  · exact h.elim
def isL : D → Prop
  | .lst _ => True
  | _ => False
def isTu : D → Prop
  | .tup _ => True
  | _ => False
def gAppend : OM := fun S p ps Kp => atL S p fun i q a ts => match ps with
  | [x] => goes x = true ∧ ts.length < 1000000 ∧ optK (putN S i q (.lst a (ts ++ [pT x]))) fun S' => Kp (.sh .non) S'
  | _ => False
def gPop : OM := fun S p ps Kp => atL S p fun i q a ts => match ps with
  | [] => optK ts[ts.length - 1]? fun t => optK (tP t) fun x => optK (putN S i q (.lst a ts.dropLast)) fun S' => Kp x S'
  | _ => False
def gPopAt : OM := fun S p ps Kp => atL S p fun i q a ts => match ps with
  | [x] => match pk S x with
    | .int n => ts.length < 1000000 ∧ optK (ixN ts.length n) fun j => optK ts[j]? fun t => optK (tP t) fun y => optK (putN S i q (.lst a (ts.eraseIdx j))) fun S' => Kp y S'
    | _ => False
  | _ => False
def gInsert : OM := fun S p ps Kp => atL S p fun i q a ts => match ps with
  | [x, y] => match pk S x with
    | .int n => goes y = true ∧ ts.length < 1000000 ∧ 0 ≤ n ∧ n < 2 ^ 62 ∧ optK (putN S i q (.lst a (ts.take n.toNat ++ [pT y] ++ ts.drop n.toNat))) fun S' => Kp (.sh .non) S'
    | _ => False
  | _ => False
def gReverse : OM := fun S p ps Kp => atL S p fun i q a ts => match ps with
  | [] => optK (putN S i q (.lst a ts.reverse)) fun S' => Kp (.sh .non) S'
  | _ => False
def gClear : OM := fun S p ps Kp => atL S p fun i q a ts => match ps with
  | [] => optK (putN S i q (.lst a [])) fun S' => Kp (.sh .non) S'
  | _ => False
def gExtend : OM := fun S p ps Kp => atL S p fun i q a ts => match ps with
  | [x] => optK (kids S x) fun kt => kt.1 = .l ∧ kt.2.all leaf = true ∧ ts.length + kt.2.length < 1000000 ∧ optK (putN S i q (.lst a (ts ++ kt.2))) fun S' => Kp (.sh .non) S'
  | _ => False
theorem RepTs.rev {K : PySem.W.Frag} {R B H : Hp} : ∀ {xs : List T} {ws : List V}, RepTs K R B H xs ws → RepTs K R B H xs.reverse ws.reverse
  | [], _, h => by unfold RepTs at h; subst h; show RepTs K R B H [] []; unfold RepTs; rfl
  | x :: xs, _, h => by
    unfold RepTs at h
    obtain ⟨w, r, rfl, h1, h2⟩ := h
    rw [List.reverse_cons, List.reverse_cons]
    refine (RepTs.rev h2).append ?_
    unfold RepTs
    exact ⟨w, [], rfl, h1, by unfold RepTs; rfl⟩
theorem RepTs.one {K : PySem.W.Frag} {R B H : Hp} {t : T} {w : V} (h : RepT K R B H t w) : RepTs K R B H [t] [w] := by
  unfold RepTs
  exact ⟨w, [], rfl, h, by unfold RepTs; rfl⟩
theorem feet_rev (ts : List T) : ∀ b, b ∈ feet ts.reverse ↔ b ∈ feet ts := fun b => by
  constructor
  · intro h
    obtain ⟨i, t, e, q⟩ := mem_feet h
    obtain ⟨j, e2⟩ := List.mem_iff_getElem?.mp (List.mem_reverse.mp (List.mem_of_getElem? e))
    exact feet_mem e2 q
  · intro h
    obtain ⟨i, t, e, q⟩ := mem_feet h
    obtain ⟨j, e2⟩ := List.mem_iff_getElem?.mp (List.mem_reverse.mpr (List.mem_of_getElem? e))
    exact feet_mem e2 q
theorem feet_rev_nd : ∀ {ts : List T}, (feet ts).Nodup → (feet ts.reverse).Nodup
  | [], _ => by simp [feet]
  | t :: ts, h => by
    simp only [feet] at h
    obtain ⟨h1, h2, h3⟩ := List.nodup_append.mp h
    rw [List.reverse_cons, feet_append, feet_one]
    exact List.nodup_append.mpr ⟨feet_rev_nd h2, h1, fun a ha b hb z => h3 b hb a ((feet_rev ts a).mp ha) z.symm⟩
section
variable {K : PySem.W.Frag}
theorem line_lt {n : Nat} (h : n < 1000000) : n < sizeLine := Nat.lt_of_lt_of_le h (by decide)
theorem opm_append : OpM K rAppend gAppend := by
  intro c B H S σ p v ps vs Kp Q ok tr0 r rs d h post
  obtain ⟨i, q, a, ts, rfl, e, h⟩ := atL_of h
  have h' : ∃ x, ps = [x] ∧ goes x = true ∧ ts.length < 1000000 ∧ optK (putN S i q (.lst a (ts ++ [pT x]))) fun S' => Kp (.sh .non) S' := by
    match ps, h with
    | [x], h => exact ⟨x, rfl, h⟩
  obtain ⟨x, rfl, hg, hl, h⟩ := h'
  obtain ⟨S', e2, h⟩ := optK_some h
  obtain ⟨w, rfl, rx⟩ := reps1 rs
  obtain ⟨rfl, ws, ha, hw⟩ := lst_at ok e r
  obtain ⟨x1, x2, x3⟩ := pT_rep rx
  have hnd := node_nd ok.rep e
  simp only [foot] at hnd
  have fx : ∀ b ∈ foot (pT x), b ∈ feetP [x] ∧ b ∉ feet S ∧ B b = none ∧ c.R b = none := fun b hb => by
    rw [x2] at hb
    exact ⟨by simp [feetP, hb], (rx.some hb).2⟩
  obtain ⟨ok', t, _⟩ := chg_lst (F := footP (P.at i q) ++ feetP [x]) ok tr0 e e2 (hw.append (RepTs.one x1)) (by
    rw [feet_append, feet_one]
    refine List.nodup_append.mpr ⟨(List.nodup_cons.mp hnd).2, by rw [x2]; exact x3, fun y hy z hz ez => ?_⟩
    subst ez
    exact (fx y hz).2.1 (node_feet e y (by simp [foot, hy]))) fun b hb => by
    rw [feet_append, feet_one] at hb
    rcases List.mem_append.mp hb with z | z
    · exact .inl z
    · exact .inr ⟨List.mem_append_right _ (fx b z).1, (fx b z).2⟩
  refine ⟨a, ws, w, rfl, rfl, ha, by rw [hw.len]; exact line_lt hl, ?_⟩
  exact post (.sh .non) S' .non B _ h ok' (t [] fun b hb => by simp at hb) (flat_non K B)
/-- an item taken out of a list -/
theorem take_out {c : Ct} {B H : Hp} {S S' : List T} {σ : L2.St} {F : List Addr} {Kp : KP} {Q : VK} {i j : Nat} {q : List Nat} {a : Addr} {ts : List T} {ws : List V} {t : T} {x : P} {w : V} (ok : Ok K c B H S σ) (tr0 : Tr c.B0 c.H0 c.F0 B H (feet S ++ F)) (e : node S i q = some (.lst a ts)) (e2 : putN S i q (.lst a (ts.eraseIdx j)) = some S')
    (hw : RepTs K c.R B H ts ws) (et : ts[j]? = some t) (ew : ws[j]? = some w) (ex : tP t = some x) (k : Kp x S') (post : Post K c B H S F σ Kp Q) : Q w (upd H a (.lst (ws.eraseIdx j))) := by
  have hnd := node_nd ok.rep e
  simp only [foot] at hnd
  obtain ⟨h1, h2⟩ := feet_erase et (List.nodup_cons.mp hnd).2
  obtain ⟨ok', tr, hS⟩ := chg_lst (F := F) ok tr0 e e2 hw.eraseIdx h2 fun b hb => .inl (h1 b hb).1
  have haS : a ∈ feet S := node_feet e a (by simp [foot])
  have tf : ∀ b ∈ foot t, b ∈ feet ts := fun b hb => feet_mem et hb
  have tfS : ∀ b ∈ foot t, b ∈ feet S := fun b hb => node_feet e b (by simp [foot, tf b hb])
  have rt : RepT K c.R B H t w := by
    obtain ⟨w', e3, h3⟩ := hw.get et
    rw [ew] at e3; cases e3; exact h3
  have hoff : ∀ b ∈ foot t, b ∉ feet S' := fun b hb z => by
    rcases hS b z with y | y
    · rcases List.mem_cons.mp (show b ∈ a :: feet (ts.eraseIdx j) by simpa [foot] using y) with y | y
      · subst y; exact (List.nodup_cons.mp hnd).1 (tf _ hb)
      · exact (h1 b y).2 hb
    · exact y.2 (by simp [foot, tf b hb])
  obtain ⟨r1, r2⟩ := tP_rep (S := S') (B := B) (H := upd H a (.lst (ws.eraseIdx j))) ex (rt.mono (Sub.refl B) fun b o hb h => by
    rw [upd_ne (fun z : b = a => (List.nodup_cons.mp hnd).1 (by rw [← z]; exact tf b hb))]; exact h) (foot_nodup_of (List.nodup_cons.mp hnd).2 et) fun b hb => ⟨hoff b hb, ok.rep.bf b (tfS b hb), ok.rep.rf b (tfS b hb)⟩
  exact post x S' w B _ k ok' (tr _ fun b hb => .inl (by simp [foot, tf b (r2 b hb)])) r1
theorem opm_pop : OpM K rPop gPop := by
  intro c B H S σ p v ps vs Kp Q ok tr0 r rs d h post
  obtain ⟨i, q, a, ts, rfl, e, h⟩ := atL_of h
  cases ps with
  | cons _ _ => exact h.elim
  | nil =>
    obtain ⟨t, et, h⟩ := optK_some h
    obtain ⟨x, ex, h⟩ := optK_some h
    obtain ⟨S', e2, h⟩ := optK_some h
    cases rs
    obtain ⟨rfl, ws, ha, hw⟩ := lst_at ok e r
    have hlen := hw.len
    obtain ⟨w, ew, _⟩ := hw.get et
    have d1 : ∀ {α : Type} (l : List α), l.dropLast = l.eraseIdx (l.length - 1) := fun l => by
      rw [List.dropLast_eq_take, List.eraseIdx_eq_take_drop_succ]
      by_cases z : l.length = 0
      · have : l = [] := List.eq_nil_of_length_eq_zero z
        subst this; rfl
      · rw [show l.length - 1 + 1 = l.length by omega, List.drop_length, List.append_nil]
    refine ⟨a, ws, w, rfl, rfl, ha, by rw [hlen]; exact ew, ?_⟩
    rw [d1] at e2
    rw [d1, hlen]
    exact take_out ok tr0 e e2 hw et ew ex h post
theorem opm_popAt : OpM K rPopAt gPopAt := by
  intro c B H S σ p v ps vs Kp Q ok tr0 r rs d h post
  obtain ⟨i, q, a, ts, rfl, e, h⟩ := atL_of h
  obtain ⟨x, rfl, hh⟩ := oa1 h
  clear h
  obtain ⟨v1, rfl, rx⟩ := reps1 rs
  generalize ep : pk S x = dd at hh
  cases dd <;> first | exact hh.elim | skip
  rename_i n
  have h := hh
  obtain ⟨hl, h⟩ := h
  obtain ⟨j, ej, h⟩ := optK_some h
  obtain ⟨t, et, h⟩ := optK_some h
  obtain ⟨y, ex, h⟩ := optK_some h
  obtain ⟨S', e2, h⟩ := optK_some h
  obtain ⟨rfl, ws, ha, hw⟩ := lst_at ok e r
  have hlen := hw.len
  obtain ⟨w, ew, _⟩ := hw.get et
  obtain ⟨z1, z2, z3, z4⟩ := ixN_seq ej
  refine ⟨a, ws, n, j, w, rfl, by rw [pk_int ok.rep rx ep], ha, by omega, by omega, by rw [hlen]; exact z1, ew, ?_⟩
  exact take_out ok tr0 e e2 hw et ew ex h post
theorem opm_insert : OpM K (fun x vs H Q => ∃ (l : Addr) (xs : List V) (i : Int) (y : V), x = .ref l ∧ vs = [.int i, y] ∧ H l = some (.lst xs) ∧ xs.length < sizeLine ∧ 0 ≤ i ∧ i < 2 ^ 63 ∧
    Q .non (upd H l (.lst (xs.take i.toNat ++ [y] ++ xs.drop i.toNat)))) gInsert := by
  intro c B H S σ p v ps vs Kp Q ok tr0 r rs d h post
  obtain ⟨i, q, a, ts, rfl, e, h⟩ := atL_of h
  obtain ⟨x0, x, rfl, hh⟩ := oa2 h
  clear h
  obtain ⟨v1, w, rfl, rx0, rx⟩ := reps2 rs
  generalize ep : pk S x0 = dd at hh
  cases dd <;> first | exact hh.elim | skip
  rename_i n
  have h := hh
  obtain ⟨hg, hl, h0, h1, h⟩ := h
  obtain ⟨S', e2, h⟩ := optK_some h
  obtain ⟨rfl, ws, ha, hw⟩ := lst_at ok e r
  obtain ⟨x1, x2, x3⟩ := pT_rep rx
  have hnd := node_nd ok.rep e
  simp only [foot] at hnd
  have hnd := (List.nodup_cons.mp hnd).2
  have fx : ∀ b ∈ foot (pT x), b ∈ feetP [x0, x] ∧ b ∉ feet S ∧ B b = none ∧ c.R b = none := fun b hb => by
    rw [x2] at hb
    exact ⟨by simp [feetP, hb], (rx.some hb).2⟩
  have ftd := feet_take_drop ts n.toNat
  have hnd2 := hnd
  rw [ftd] at hnd2
  obtain ⟨n1, n2, n3⟩ := List.nodup_append.mp hnd2
  have off : ∀ b ∈ foot (pT x), b ∉ feet ts := fun b hb z => (fx b hb).2.1 (node_feet e b (by simp [foot, z]))
  have hn : (feet (ts.take n.toNat ++ [pT x] ++ ts.drop n.toNat)).Nodup := by
    rw [feet_append, feet_append, feet_one]
    refine List.nodup_append.mpr ⟨List.nodup_append.mpr ⟨n1, by rw [x2]; exact x3, fun y hy z hz ez => ?_⟩, n2, fun y hy z hz ez => ?_⟩
    · subst ez; exact off y hz (by rw [ftd]; exact List.mem_append_left _ hy)
    · subst ez
      rcases List.mem_append.mp hy with k | k
      · exact n3 y k y hz rfl
      · exact off y k (by rw [ftd]; exact List.mem_append_right _ hz)
  obtain ⟨ok', t, _⟩ := chg_lst (F := footP (P.at i q) ++ feetP [x0, x]) ok tr0 e e2 (((hw.take n.toNat).append (RepTs.one x1)).append (hw.drop n.toNat)) hn fun b hb => by
    rw [feet_append, feet_append, feet_one] at hb
    rcases List.mem_append.mp hb with z | z
    · rcases List.mem_append.mp z with z | z
      · exact .inl (by rw [ftd]; exact List.mem_append_left _ z)
      · exact .inr ⟨List.mem_append_right _ (fx b z).1, (fx b z).2⟩
    · exact .inl (by rw [ftd]; exact List.mem_append_right _ z)
  refine ⟨a, ws, n, w, rfl, by rw [pk_int ok.rep rx0 ep], ha, by rw [hw.len]; exact line_lt hl, h0, by omega, ?_⟩
  exact post (.sh .non) S' .non B _ h ok' (t [] fun b hb => by simp at hb) (flat_non K B)
theorem opm_reverse : OpM K rReverse gReverse := by
  intro c B H S σ p v ps vs Kp Q ok tr0 r rs d h post
  obtain ⟨i, q, a, ts, rfl, e, h⟩ := atL_of h
  cases ps with
  | cons _ _ => exact h.elim
  | nil =>
    obtain ⟨S', e2, h⟩ := optK_some h
    cases rs
    obtain ⟨rfl, ws, ha, hw⟩ := lst_at ok e r
    have hnd := node_nd ok.rep e
    simp only [foot] at hnd
    obtain ⟨ok', t, _⟩ := chg_lst (F := footP (P.at i q) ++ feetP []) ok tr0 e e2 hw.rev (feet_rev_nd (List.nodup_cons.mp hnd).2) fun b hb => .inl ((feet_rev ts b).mp hb)
    exact ⟨a, ws, rfl, rfl, ha, post (.sh .non) S' .non B _ h ok' (t [] fun b hb => by simp at hb) (flat_non K B)⟩
theorem opm_clear : OpM K rClear gClear := by
  intro c B H S σ p v ps vs Kp Q ok tr0 r rs d h post
  obtain ⟨i, q, a, ts, rfl, e, h⟩ := atL_of h
  cases ps with
  | cons _ _ => exact h.elim
  | nil =>
    obtain ⟨S', e2, h⟩ := optK_some h
    cases rs
    obtain ⟨rfl, ws, ha, hw⟩ := lst_at ok e r
    obtain ⟨ok', t, _⟩ := chg_lst (F := footP (P.at i q) ++ feetP []) (ws' := []) ok tr0 e e2 (by unfold RepTs; rfl) (by simp [feet]) fun b hb => by simp [feet] at hb
    exact ⟨a, ws, rfl, rfl, ha, post (.sh .non) S' .non B _ h ok' (t [] fun b hb => by simp at hb) (flat_non K B)⟩
end
/-- x.m(..) of a built-in class -/
def wBM (ty : D → Prop) (g : OM) (f : WE) (fa : WA) : WE := fun S Kp Ke => f S (fun p S1 => ty (pk S1 p) ∧ fa S1 (fun ps S2 => okAt p S1 S2 ∧ g S2 p ps Kp) Ke) Ke
section
variable {X : Cx} {c : Ct} {Ke : KE} {o e : Expr} {es : List Expr} {fo : WE} {fa : WA} {name : Str} {id T : String} {apos cpos : Pos} {r : V → List V → Hp → VK → Prop} {g : OM} {ty : D → Prop}
theorem bm_of (hty : ∀ H d v, ty d → RepD X.K H d v → tyV X.K T v H) (hg : OpM X.K r g) : ∀ σ H Q, tE X.K c Ke (wBM ty g fo fa) σ H Q → tBM X.K T r (tE X.K c Ke fo) (tA X.K c Ke fa) σ H Q := by
  rintro σ H Q ⟨S, B, Kp, ok, hf, post⟩
  refine ⟨S, B, _, ok, hf, fun p S1 v B1 H1 h1 ok1 t1 r1 => ?_⟩
  refine ⟨hty _ _ _ h1.1 (ok1.rep.pk r1), S1, B1, _, ok1, h1.2, fun ps S2 vs B2 H2 h2 ok2 t2 r2 => ?_⟩
  have t1 := t1.nil
  have t3 := (t1.temp t2).perm (G := feet S2 ++ (footP p ++ feetP ps)) fun a ha => mem_swap ha
  exact hg c B2 H2 S2 σ p v ps vs Kp Q ok2 (ok.tr.trans t3) (r1.mv t2.left h2.1) r2 (fun a ha hq => r1.off t2 ha (List.mem_append_right _ hq)) h2.2 (post_after t3 post)
theorem i_bm (pa : PlainAttrs T) (slot : Slot T name id) (htt : typeOf (.builtin id) = pure (.type "method_descriptor")) (hm : MtR X id r) (hty : ∀ H d v, ty d → RepD X.K H d v → tyV X.K T v H) (hg : OpM X.K r g) (ho : PE X o (tE X.K c Ke fo)) (ha : PA X (e :: es) (tA X.K c Ke fa))
    (hbase : attributeBase o name X.env (eval o X.env) = eval o X.env := by rfl)
    (hfew : ((backTo cpos (starEach (e :: es) X.env)).all (fun x => !x.1) && (backToKw cpos (keywordEach [] X.env)).all (fun x => x.1.isSome)
      && decide ((e :: es).length + ([] : List Keyword).length + (if ([] : List Keyword).isEmpty then 0 else 1) < 30)) = true := by rfl)
    (hline : (apos.endLine == cpos.line) = true := by rfl) (hs : starEach (e :: es) X.env = (false, eval e X.env) :: starEach es X.env := by rfl) (hplain : (backTo cpos (starEach es X.env)).any (·.1) = false := by rfl) :
    PE X (.Call (.Attribute o name apos) (e :: es) [] cpos) (tE X.K c Ke (wBM ty g fo fa)) :=
  wkE (pe_bm pa slot htt hm ho ha hbase hfew hline hs hplain) (bm_of hty hg)
theorem i_bm0 (pa : PlainAttrs T) (slot : Slot T name id) (htt : typeOf (.builtin id) = pure (.type "method_descriptor")) (hm : MtR X id r) (hty : ∀ H d v, ty d → RepD X.K H d v → tyV X.K T v H) (hg : OpM X.K r g) (ho : PE X o (tE X.K c Ke fo))
    (hbase : attributeBase o name X.env (eval o X.env) = eval o X.env := by rfl) (hline : (apos.endLine == cpos.line) = true := by rfl) : PE X (.Call (.Attribute o name apos) [] [] cpos) (tE X.K c Ke (wBM ty g fo wNil)) := by
  refine wkE (pe_bm0 pa slot htt hm ho hbase hline) fun σ H Q h => ?_
  obtain ⟨S, B, Kp, ok, hf, post⟩ := bm_of hty hg σ H Q h
  refine ⟨S, B, Kp, ok, hf, fun p S1 v B1 H1 h1 ok1 t1 r1 => ?_⟩
  obtain ⟨z1, S2, B2, Kp2, ok2, hf2, z2⟩ := post p S1 v B1 H1 h1 ok1 t1 r1
  exact ⟨z1, z2 [] S2 [] B2 _ hf2 ok2 (Tr.refl _ _ _).nil' .nil⟩
theorem ty_list (K : PySem.W.Frag) : ∀ H d v, isL d → RepD K H d v → tyV K "list" v H := fun H d v h r => by
  cases d <;> first | exact h.elim | skip
  unfold RepD at r
  obtain ⟨a, ws, rfl, h2, _⟩ := r
  exact .inl ⟨rfl, ws, SqL.of h2⟩
theorem i_append (ho : PE X o (tE X.K c Ke fo)) (ha : PA X [e] (tA X.K c Ke fa)) (hbase : attributeBase o "append" X.env (eval o X.env) = eval o X.env := by rfl)
    (hfew : ((backTo cpos (starEach [e] X.env)).all (fun x => !x.1) && (backToKw cpos (keywordEach [] X.env)).all (fun x => x.1.isSome) && decide ([e].length + ([] : List Keyword).length + (if ([] : List Keyword).isEmpty then 0 else 1) < 30)) = true := by rfl)
    (hline : (apos.endLine == cpos.line) = true := by rfl) (hs : starEach [e] X.env = (false, eval e X.env) :: starEach [] X.env := by rfl) :
    PE X (.Call (.Attribute o "append" apos) [e] [] cpos) (tE X.K c Ke (wBM isL gAppend fo fa)) :=
  i_bm F.plainAttrs_list F.slot_list_append F.type_list_append mt_append (ty_list _) opm_append ho ha hbase hfew hline hs rfl
theorem i_popAt (ho : PE X o (tE X.K c Ke fo)) (ha : PA X [e] (tA X.K c Ke fa)) (hbase : attributeBase o "pop" X.env (eval o X.env) = eval o X.env := by rfl)
    (hfew : ((backTo cpos (starEach [e] X.env)).all (fun x => !x.1) && (backToKw cpos (keywordEach [] X.env)).all (fun x => x.1.isSome) && decide ([e].length + ([] : List Keyword).length + (if ([] : List Keyword).isEmpty then 0 else 1) < 30)) = true := by rfl)
    (hline : (apos.endLine == cpos.line) = true := by rfl) (hs : starEach [e] X.env = (false, eval e X.env) :: starEach [] X.env := by rfl) :
    PE X (.Call (.Attribute o "pop" apos) [e] [] cpos) (tE X.K c Ke (wBM isL gPopAt fo fa)) :=
  i_bm F.plainAttrs_list F.slot_list_pop F.type_list_pop mt_popAt (ty_list _) opm_popAt ho ha hbase hfew hline hs rfl
theorem i_pop (ho : PE X o (tE X.K c Ke fo)) (hbase : attributeBase o "pop" X.env (eval o X.env) = eval o X.env := by rfl) (hline : (apos.endLine == cpos.line) = true := by rfl) :
    PE X (.Call (.Attribute o "pop" apos) [] [] cpos) (tE X.K c Ke (wBM isL gPop fo wNil)) := i_bm0 F.plainAttrs_list F.slot_list_pop F.type_list_pop mt_pop (ty_list _) opm_pop ho hbase hline
theorem i_reverse (ho : PE X o (tE X.K c Ke fo)) (hbase : attributeBase o "reverse" X.env (eval o X.env) = eval o X.env := by rfl) (hline : (apos.endLine == cpos.line) = true := by rfl) :
    PE X (.Call (.Attribute o "reverse" apos) [] [] cpos) (tE X.K c Ke (wBM isL gReverse fo wNil)) := i_bm0 F.plainAttrs_list F.slot_list_reverse F.type_list_reverse mt_reverse (ty_list _) opm_reverse ho hbase hline
theorem i_clear (ho : PE X o (tE X.K c Ke fo)) (hbase : attributeBase o "clear" X.env (eval o X.env) = eval o X.env := by rfl) (hline : (apos.endLine == cpos.line) = true := by rfl) :
    PE X (.Call (.Attribute o "clear" apos) [] [] cpos) (tE X.K c Ke (wBM isL gClear fo wNil)) := i_bm0 F.plainAttrs_list F.slot_list_clear F.type_list_clear mt_clear (ty_list _) opm_clear ho hbase hline
theorem i_insert {e2 : Expr} (ho : PE X o (tE X.K c Ke fo)) (ha : PA X [e, e2] (tA X.K c Ke fa)) (hbase : attributeBase o "insert" X.env (eval o X.env) = eval o X.env := by rfl)
    (hfew : ((backTo cpos (starEach [e, e2] X.env)).all (fun x => !x.1) && (backToKw cpos (keywordEach [] X.env)).all (fun x => x.1.isSome) && decide ([e, e2].length + ([] : List Keyword).length + (if ([] : List Keyword).isEmpty then 0 else 1) < 30)) = true := by rfl)
    (hline : (apos.endLine == cpos.line) = true := by rfl) (hs : starEach [e, e2] X.env = (false, eval e X.env) :: starEach [e2] X.env := by rfl) (hpl : (backTo cpos (starEach [e2] X.env)).any (·.1) = false := by rfl) :
    PE X (.Call (.Attribute o "insert" apos) [e, e2] [] cpos) (tE X.K c Ke (wBM isL gInsert fo fa)) :=
  i_bm F.plainAttrs_list F.slot_list_insert F.type_list_insert mt_insert (ty_list _) opm_insert ho ha hbase hfew hline hs hpl
end
end SL

set_option Elab.async false
set_option linter.all false
set_option maxRecDepth 100000
set_option maxHeartbeats 4000000
/-! SL15: operators on lists and strings; slices; stores. -/
namespace SL
open PySem PySem.Spec PyProof.Rows L2

/-- the items of a list, to be had elsewhere -/
def rowM (S : List T) : P → Option (List T)
  | .ow (.lst _ ts) => some ts
  | p => match kids S p with
    | some (.l, ts) => if ts.all leaf = true then some ts else none
    | _ => none
section
variable {K : PySem.W.Frag} {c : Ct} {B H : Hp} {S S' : List T} {σ : L2.St} {F : List Addr} {Kp : KP} {Q : VK}
theorem rowM_rep {p : P} {v : V} {ts : List T} (rep : Rep K c.R B H S σ) (r : RepP K c.R B H S p v) (e : rowM S p = some ts) : ∃ a ws, v = .ref a ∧ H a = some (.lst ws) ∧ RepTs K c.R B H ts ws ∧ (feet ts).Nodup ∧ ∀ b ∈ feet ts, b ∈ footP p := by
  have gen : (match kids S p with
    | some (.l, ts) => if ts.all leaf = true then some ts else none
    | _ => none) = some ts → ∃ a ws, v = .ref a ∧ H a = some (.lst ws) ∧ RepTs K c.R B H ts ws ∧ (feet ts).Nodup ∧ ∀ b ∈ feet ts, b ∈ footP p := fun e => by
    split at e
    · rename_i ts' e1
      split at e
      · rename_i hl
        cases e
        obtain ⟨a, ws, h1, h2, h3⟩ := kids_rep rep r e1
        exact ⟨a, ws, h1, h2, h3, by rw [leaf_foot hl]; exact List.nodup_nil, fun b hb => by rw [leaf_foot hl] at hb; simp at hb⟩
      · cases e
    · cases e
  cases p with
  | sh d => exact gen e
  | br d => exact gen e
  | «at» i q => exact gen e
  | ow t =>
    cases t with
    | lst a ts' =>
      have e : some ts' = some ts := e
      cases e
      unfold RepP at r
      obtain ⟨r1, r2, r3⟩ := r
      unfold RepT at r1
      obtain ⟨rfl, ws, h1, h2⟩ := r1
      simp only [foot] at r2
      exact ⟨a, ws, rfl, h1, h2, (List.nodup_cons.mp r2).2, fun b hb => by simp [footP, foot, hb]⟩
    | un => exact gen e
    | sh d => exact gen e
    | br d => exact gen e
    | ins a C ns ts => exact gen e
    | dT a k => exact gen e
end

/-! ### + and * -/
def wPlus : O2 := fun S p q Kp => match pk S p, pk S q with
  | .int i, .int j => Kp (.sh (.int (i + j))) S
  | .str x, .str y => x.length + y.length ≤ 1000000 ∧ Kp (.sh (.str (x ++ y))) S
  | .tup _, .tup _ => match p, q with
    | .sh (.tup xs), .sh (.tup ys) => xs.length + ys.length ≤ 1000000 ∧ Kp (.sh (.tup (xs ++ ys))) S
    | _, _ => False
  | _, _ => optK (rowM S p) fun ts => optK (rowM S q) fun us => ts.length + us.length ≤ 1000000 ∧ ∀ a, Kp (.ow (.lst a (ts ++ us))) S
def wTimes : O2 := fun S p q Kp => match pk S p, pk S q with
  | .int i, .int j => MulC i j ∧ Kp (.sh (.int (i * j))) S
  | _, .int j => optK (rowM S p) fun ts => ts.all leaf = true ∧ -(2 ^ 62) ≤ j ∧ j < 2 ^ 62 ∧ ts.length * j.toNat ≤ 1000000 ∧ ∀ a, Kp (.ow (.lst a (List.replicate j.toNat ts).flatten)) S
  | _, _ => False
abbrev rPlus (K : PySem.W.Frag) : R2 := fun x y H Q => ((rI0 fun i j => .int (i + j)) x y H Q ∨ (∃ i j, x = .str i ∧ y = .str j ∧ i.length + j.length ≤ sizeLine ∧ Q (.str (i ++ j)) H)) ∨ (rCatA K x y H Q ∨ rCat x y H Q)
abbrev rTimes : R2 := fun x y H Q => (rI MulC fun i j => .int (i * j)) x y H Q ∨ rRep x y H Q
theorem OpR_or {X : Cx} {f : Value → Value → Sem Value} {r r' : R2} (h : OpR X f r) (h' : OpR X f r') : OpR X f (fun x y H Q => r x y H Q ∨ r' x y H Q) := by
  intro pins s σ H x y v u Q I rx ry q
  rcases q with q | q
  · exact h pins s σ H x y v u Q I rx ry q
  · exact h' pins s σ H x y v u Q I rx ry q
theorem RepTs.rep {K : PySem.W.Frag} {R B H : Hp} {ts : List T} {ws : List V} (h : RepTs K R B H ts ws) : ∀ k : Nat, RepTs K R B H (List.replicate k ts).flatten (List.replicate k ws).flatten
  | 0 => by unfold RepTs; rfl
  | k + 1 => by
    rw [List.replicate_succ, List.replicate_succ, List.flatten_cons, List.flatten_cons]
    exact h.append (RepTs.rep h k)
theorem leaf_rep_all {ts : List T} (h : ts.all leaf = true) : ∀ k : Nat, ((List.replicate k ts).flatten).all leaf = true
  | 0 => rfl
  | k + 1 => by
    rw [List.replicate_succ, List.flatten_cons, List.all_append, h, leaf_rep_all h k]; rfl
theorem line_le {n : Nat} (h : n ≤ 1000000) : n ≤ sizeLine := Nat.le_trans h (by decide)
theorem op2_plus {K : PySem.W.Frag} : Op2 K (rPlus K) wPlus := by
  intro c B H S σ p q v w Kp Q ok tr0 rp rq dj h post
  have lists : optK (rowM S p) (fun ts => optK (rowM S q) fun us => ts.length + us.length ≤ 1000000 ∧ ∀ a, Kp (.ow (.lst a (ts ++ us))) S) → rPlus K v w H Q := fun h => by
    obtain ⟨ts, e1, h⟩ := optK_some h
    obtain ⟨us, e2, hl, h⟩ := optK_some h
    obtain ⟨a, ws, rfl, a1, a2, a3, a4⟩ := rowM_rep ok.rep rp e1
    obtain ⟨b, zs, rfl, b1, b2, b3, b4⟩ := rowM_rep ok.rep rq e2
    refine .inr (.inr ⟨a, b, ws, zs, rfl, rfl, a1, b1, by rw [a2.len, b2.len]; exact line_le hl, fun l n => ?_⟩)
    refine new_lst (F := footP p ++ footP q) ok tr0 n (a2.append b2) ?_ (fun x hx => ?_) (h l) post
    · rw [feet_append]
      exact List.nodup_append.mpr ⟨a3, b3, fun x hx y hy z => by subst z; exact dj x (a4 x hx) (b4 x hy)⟩
    · rw [feet_append] at hx
      rcases List.mem_append.mp hx with z | z
      · exact ⟨List.mem_append_left _ (a4 x z), (rp.some (a4 x z)).2⟩
      · exact ⟨List.mem_append_right _ (b4 x z), (rq.some (b4 x z)).2⟩
  unfold wPlus at h
  split at h
  · rename_i i j e1 e2
    exact .inl (.inl ⟨i, j, pk_int ok.rep rp e1, pk_int ok.rep rq e2, post.flat ok (flat_int _) h⟩)
  · rename_i x y e1 e2
    exact .inl (.inr ⟨x, y, pk_str ok.rep rp e1, pk_str ok.rep rq e2, line_le h.1, post.flat ok (flat_str _) h.2⟩)
  · rename_i x y e1 e2
    split at h
    · rename_i xs ys
      obtain ⟨hl, h⟩ := h
      have rp' := rp
      have rq' := rq
      unfold RepP RepD at rp' rq'
      obtain ⟨a, ws, rfl, a1, a2⟩ := rp'
      obtain ⟨b, zs, rfl, b1, b2⟩ := rq'
      refine .inr (.inl ⟨a, b, ws, zs, rfl, rfl, ok.rep.bh.t a1, ok.rep.bh.t b1, by rw [a2.len, b2.len]; exact line_le hl, fun z => ?_, fun z1 z2 => ?_, fun _ _ l n => new_tup ok n (a2.append b2) h post⟩)
      · subst z
        have : xs = [] := List.eq_nil_of_length_eq_zero (by rw [← a2.len]; rfl)
        subst this
        exact post.here ok h (p := .sh (.tup ys)) rq (fun a ha => by simp [footP] at ha)
      · subst z2
        have : ys = [] := List.eq_nil_of_length_eq_zero (by rw [← b2.len]; rfl)
        subst this
        rw [List.append_nil] at h
        exact post.here ok h (p := .sh (.tup xs)) rp (fun a ha => by simp [footP] at ha)
    · exact h.elim
  · exact lists h
theorem op2_times {K : PySem.W.Frag} : Op2 K rTimes wTimes := by
  intro c B H S σ p q v w Kp Q ok tr0 rp rq dj h post
  unfold wTimes at h
  split at h
  · rename_i i j e1 e2
    exact .inl ⟨i, j, pk_int ok.rep rp e1, pk_int ok.rep rq e2, h.1, post.flat ok (flat_int _) h.2⟩
  · rename_i j e2 _
    obtain ⟨ts, e1, hl, h0, h1, hz, h⟩ := optK_some h
    obtain ⟨a, ws, rfl, a1, a2, a3, a4⟩ := rowM_rep ok.rep rp e1
    refine .inr ⟨a, j, ws, rfl, pk_int ok.rep rq e2, a1, by omega, by omega, by rw [a2.len]; exact line_le hz, fun l n => ?_⟩
    exact new_leaf (F := footP p ++ footP q) ok tr0 n (a2.rep j.toNat) (leaf_rep_all hl _) (h l) post
  · exact h.elim
section
variable {X : Cx} {c : Ct} {Ke : KE} {a b e : Expr} {es : List Expr} {f h : WE} {pos p2 : Pos}
theorem i_plus (ha : PE X a (tE X.K c Ke f)) (hb : PE X b (tE X.K c Ke h)) : PE X (.BinOp a .Add b pos) (tE X.K c Ke (w2 wPlus f h)) := i_op (OpR_or (OpR_or op_add op_add_str) (OpR_or op_catA op_cat)) op2_plus ha hb
theorem i_times (ha : PE X a (tE X.K c Ke f)) (hb : PE X b (tE X.K c Ke h)) : PE X (.BinOp a .Mult b pos) (tE X.K c Ke (w2 wTimes f h)) := i_op (OpR_or opMul op_rep) op2_times ha hb
end

/-! ### items, of strings too -/
def wItem : O2 := fun S p q Kp => match pk S p, pk S q with
  | .str z, .int i => z.length ≤ 1000000 ∧ optK (atI z.cps.toList i) fun c => Kp (.sh (.str ⟨#[c]⟩)) S
  | _, _ => wIx S p q Kp
theorem op2_item {K : PySem.W.Frag} : Op2 K (fun x y H Q => rIxLT K x y H Q ∨ rIxS x y H Q) wItem := by
  intro c B H S σ p q v w Kp Q ok tr0 rp rq dj h post
  unfold wItem at h
  split at h
  · rename_i z i e1 e2
    obtain ⟨hl, h⟩ := h
    obtain ⟨k, e3, h⟩ := optK_some h
    exact .inr ⟨z, i, k, pk_str ok.rep rp e1, pk_int ok.rep rq e2, line_le hl, e3, post.flat ok (flat_str _) h⟩
  · exact .inl (op2_ix c B H S σ p q v w Kp Q ok tr0 rp rq dj h post)
section
variable {X : Cx} {c : Ct} {Ke : KE} {a b e : Expr} {es : List Expr} {f h : WE} {pos p2 : Pos}
theorem i_it (ha : PE X a (tE X.K c Ke f)) (hb : PE X b (tE X.K c Ke h)) (hs : PlainIx b := by exact fun _ _ => rfl) : PE X (.Subscript a b pos) (tE X.K c Ke (w2 wItem f h)) :=
  i_ix ((ix_list.or ix_tup).or ix_str) op2_item ha hb hs
end

/-! ### slices -/
abbrev WO := List T → (Option Int → List T → Prop) → KE → Prop
def tO (K : PySem.W.Frag) (c : Ct) (Ke : KE) (f : WO) : TO := fun σ H Q => ∃ S B k, Ok K c B H S σ ∧ f S k Ke ∧ ∀ o S' B' H', k o S' → Ok K c B' H' S' σ → Tr B H (feet S) B' H' (feet S') → Q o H'
def wNo : WO := fun S k _ => k none S
def wPart (f : WE) : WO := fun S k Ke => f S (fun p S1 => match pk S1 p with
  | .int i => k (some i) S1
  | _ => False) Ke
def cutG {α : Type} (xs : List α) (lo hi : Option Int) : List α := (xs.drop (HT.sIx xs.length 0 lo)).take (HT.sIx xs.length xs.length hi - HT.sIx xs.length 0 lo)
theorem RepDs.take {K : PySem.W.Frag} {B : Hp} : ∀ {xs : List D} {ws : List V} (i : Nat), RepDs K B xs ws → RepDs K B (xs.take i) (ws.take i)
  | _, _, 0, _ => by simp only [List.take_zero]; unfold RepDs; rfl
  | [], _, i + 1, h => by unfold RepDs at h; subst h; simp only [List.take_nil]; unfold RepDs; rfl
  | y :: xs, _, i + 1, h => by
    unfold RepDs at h
    obtain ⟨w', r, rfl, h1, h2⟩ := h
    show RepDs K B (y :: xs.take i) (w' :: r.take i)
    unfold RepDs
    exact ⟨w', _, rfl, h1, RepDs.take i h2⟩
theorem RepDs.drop {K : PySem.W.Frag} {B : Hp} : ∀ {xs : List D} {ws : List V} (i : Nat), RepDs K B xs ws → RepDs K B (xs.drop i) (ws.drop i)
  | _, _, 0, h => by simpa using h
  | [], _, i + 1, h => by unfold RepDs at h; subst h; simp only [List.drop_nil]; unfold RepDs; rfl
  | y :: xs, _, i + 1, h => by
    unfold RepDs at h
    obtain ⟨w', r, rfl, h1, h2⟩ := h
    exact RepDs.drop i h2
theorem cut_rep {K : PySem.W.Frag} {R B H : Hp} {ts : List T} {ws : List V} (h : RepTs K R B H ts ws) (lo hi : Option Int) : RepTs K R B H (cutG ts lo hi) (cutV ws lo hi) := by
  unfold cutG cutV
  rw [h.len]
  exact (h.drop _).take _
theorem cut_repD {K : PySem.W.Frag} {B : Hp} {ts : List D} {ws : List V} (h : RepDs K B ts ws) (lo hi : Option Int) : RepDs K B (cutG ts lo hi) (cutV ws lo hi) := by
  unfold cutG cutV
  rw [h.len]
  exact (h.drop _).take _
theorem cut_leaf {ts : List T} (h : ts.all leaf = true) (lo hi : Option Int) : (cutG ts lo hi).all leaf = true := by
  rw [List.all_eq_true] at h ⊢
  exact fun x hx => h x (List.mem_of_mem_drop (List.mem_of_mem_take hx))
def slc (S : List T) (p : P) (lo hi : Option Int) (Kp : KP) : Prop := match p with
  | .sh (.tup ds) => Kp (.sh (.tup (cutG ds lo hi))) S
  | _ => optK (kids S p) fun kt => match kt.1 with
    | .t => False
    | _ => kt.2.all leaf = true ∧ ∀ a, Kp (.ow (.lst a (cutG kt.2 lo hi))) S
def wSlc (f : WE) (l h : WO) : WE := fun S Kp Ke => f S (fun p S1 => l S1 (fun lo S2 => h S2 (fun hi S3 => okAt p S1 S2 ∧ okAt p S2 S3 ∧ slc S3 p lo hi Kp) Ke) Ke) Ke
section
variable {X : Cx} {c : Ct} {Ke : KE} {a b e : Expr} {es : List Expr} {f h : WE} {fl fh : WO} {lo hi : Option Expr} {pos p2 : Pos}
theorem i_no : PO X none (tO X.K c Ke wNo) := by
  refine ⟨fun pins s σ H Q I h => ?_⟩
  obtain ⟨S, B, k, ok, hf, post⟩ := h
  exact po_none.run pins s σ H Q I (post none S B H hf ok (Tr.refl _ _ _))
theorem i_part (he : PE X e (tE X.K c Ke f)) : PO X (some e) (tO X.K c Ke (wPart f)) := by
  refine ⟨fun pins s σ H Q I h => (po_some he).run pins s σ H Q I ?_⟩
  obtain ⟨S, B, k, ok, hf, post⟩ := h
  refine ⟨S, B, _, ok, hf, fun p S1 v B1 H1 h1 ok1 t1 r1 => ?_⟩
  generalize e1 : pk S1 p = d at h1
  cases d <;> first | exact h1.elim | skip
  exact ⟨_, pk_int ok1.rep r1 e1, post _ S1 B1 H1 h1 ok1 t1.nil.left⟩
theorem i_slice (he : PE X e (tE X.K c Ke f)) (hl : PO X lo (tO X.K c Ke fl)) (hh : PO X hi (tO X.K c Ke fh)) : PE X (.Subscript e (.Slice lo hi none p2) pos) (tE X.K c Ke (wSlc f fl fh)) := by
  refine wkE (pe_slice (sl_list.or sl_tupA) he hl hh) ?_
  rintro σ H Q ⟨S, B, Kp, ok, hf, post⟩
  refine ⟨S, B, _, ok, hf, fun p S1 v B1 H1 h1 ok1 t1 r1 => ?_⟩
  refine ⟨S1, B1, _, ok1, h1, fun o1 S2 B2 H2 h2 ok2 t2 => ?_⟩
  refine ⟨S2, B2, _, ok2, h2, fun o2 S3 B3 H3 h3 ok3 t3 => ?_⟩
  obtain ⟨k1, k2, h3⟩ := h3
  have r3 := (r1.mv t2 k1).mv t3 k2
  have t1 := t1.nil
  have tt : Tr B H (feet S) B3 H3 (feet S3 ++ footP p) := t1.temp (t2.trans t3)
  have post := post_after tt post
  have row : optK (kids S3 p) (fun kt => match kt.1 with
    | .t => False
    | _ => kt.2.all leaf = true ∧ ∀ a, Kp (.ow (.lst a (cutG kt.2 o1 o2))) S3) → rSlL X.K v o1 o2 H3 Q ∨ rSlA X.K v o1 o2 H3 Q := fun h3 => by
    obtain ⟨⟨k, ts⟩, e1, h3⟩ := optK_some h3
    obtain ⟨a, ws, rfl, a1, a2⟩ := kids_rep ok3.rep r3 e1
    cases k with
    | t => exact h3.elim
    | l => exact .inl ⟨a, ws, rfl, SqL.of a1, fun l n => new_leaf ok3 (ok.tr.trans tt) n (cut_rep a2 _ _) (cut_leaf h3.1 _ _) (h3.2 l) post⟩
    | q => exact .inl ⟨a, ws, rfl, a1, fun l n => new_leaf ok3 (ok.tr.trans tt) n (cut_rep a2 _ _) (cut_leaf h3.1 _ _) (h3.2 l) post⟩
  have tup : ∀ ds, p = .sh (.tup ds) → Kp (.sh (.tup (cutG ds o1 o2))) S3 → rSlL X.K v o1 o2 H3 Q ∨ rSlA X.K v o1 o2 H3 Q := fun ds ep h3 => by
    subst ep
    have r' := r3
    unfold RepP RepD at r'
    obtain ⟨a, ws, rfl, a1, a2⟩ := r'
    refine .inr ⟨a, ws, rfl, ok3.rep.bh.t a1, fun z => ?_, fun _ l n => new_tup ok3 n (cut_repD a2 _ _) h3 post⟩
    have e1 : cutG ds o1 o2 = ds := by
      unfold cutG
      rw [← a2.len, z.1, z.2, List.drop_zero, Nat.sub_zero, a2.len, List.take_length]
    have h4 : Kp (.sh (.tup (cutG ds o1 o2))) S3 := h3
    rw [e1] at h4
    exact post.here ok3 h4 (p := .sh (.tup ds)) r3 (fun a ha => by simp [footP] at ha)
  cases p with
  | sh d => cases d <;> first | exact tup _ rfl h3 | exact row h3
  | br d => exact row h3
  | ow t => exact row h3
  | «at» i q => exact row h3
end
end SL

set_option Elab.async false
set_option linter.all false
set_option maxRecDepth 100000
set_option maxHeartbeats 4000000
/-! SL16: stores: xs[i] = e, o.f = e, op=. -/
namespace SL
open PySem PySem.Spec PyProof.Rows L2

/-! ### xs[i] = e -/
def wStI (fv fo fi : WE) : WS := fun S k => fv S (fun x S1 => fo S1 (fun p S2 => okAt x S1 S2 ∧ fi S2 (fun r S3 => okAt x S2 S3 ∧ okAt p S2 S3 ∧ goes x = true ∧ atL S3 p fun i q a ts => match pk S3 r with
  | .int n => optK (ixN ts.length n) fun j => optK (putN S3 i q (.lst a (ts.set j (pT x)))) k.nx
  | _ => False) k.ex) k.ex) k.ex
section
variable {K : PySem.W.Frag} {c : Ct} {B H : Hp} {S S' : List T} {σ : L2.St} {F : List Addr}
theorem set_lst {i j : Nat} {q : List Nat} {a : Addr} {ts : List T} {ws : List V} {x : P} {w : V} (ok : Ok K c B H S σ) (tr0 : Tr c.B0 c.H0 c.F0 B H (feet S ++ F)) (e : node S i q = some (.lst a ts)) (e2 : putN S i q (.lst a (ts.set j (pT x))) = some S') (hw : RepTs K c.R B H ts ws) (rx : RepP K c.R B H S x w) (hF : ∀ b ∈ footP x, b ∈ F) :
    Ok K c B (upd H a (.lst (ws.set j w))) S' σ ∧ Tr B H (feet S ++ F) B (upd H a (.lst (ws.set j w))) (feet S') := by
  obtain ⟨x1, x2, x3⟩ := pT_rep rx
  have hnd := node_nd ok.rep e
  simp only [foot] at hnd
  have hnd := (List.nodup_cons.mp hnd).2
  have fx : ∀ b ∈ foot (pT x), b ∈ F ∧ b ∉ feet S ∧ B b = none ∧ c.R b = none := fun b hb => by
    rw [x2] at hb
    exact ⟨hF b hb, (rx.some hb).2⟩
  obtain ⟨ok', t, _⟩ := chg_lst (F := F) ok tr0 e e2 (hw.set x1) (feet_set_nodup hnd (by rw [x2]; exact x3) fun b hb hz => absurd (node_feet e b (by simp [foot, hz])) (fx b hb).2.1) fun b hb => by
    rcases feet_set_mem hb with z | z
    · exact .inr (fx b z)
    · exact .inl z
  refine ⟨ok', ?_⟩
  have := t [] fun b hb => by simp at hb
  rwa [List.append_nil] at this
end
section
variable {X : Cx} {c : Ct} {Ke : KE} {v o i e : Expr} {fv fo fi : WE} {pos p1 : Pos}
theorem i_setI (hv : PE X v (tE X.K c Ke fv)) (ho : PE X o (tE X.K c Ke fo)) (hi : PE X i (tE X.K c Ke fi)) (hs : swapsWithSole [.Subscript o i p1] v pos.line X.env = pure false := by rfl) (hw : swappedStores [.Subscript o i p1] v X.env = pure none := by rfl)
    (h1 : (assignEach [.Subscript o i p1] X.env).map (·.2) = [assign (.Subscript o i p1) X.env] := by rfl)
    (ha : ∀ v, assign (.Subscript o i p1) X.env v = (do
      let ov ← holding [v] (eval o X.env)
      let iv ← holding [v, ov] (eval i X.env)
      standAt p1
      holding [v, ov, iv] (setItem ov iv v)
      release [v, ov, iv] []) := by intro _; rfl) : PS X (.Assign [.Subscript o i p1] v pos) (tS X.K c Ke (wStI fv fo fi)) := by
  refine wkS (ps_asg hv (pg_sub ho hi set_list ha) hs hw h1) ?_
  rintro D σ H ⟨S, B, k, ok, h, rfl, n, bk, ct, rt⟩
  refine ⟨S, B, _, ok, h, fun x S1 w B1 H1 h1 ok1 t1 rx => ?_⟩
  refine ⟨S1, B1, _, ok1, h1, fun p S2 u B2 H2 h2 ok2 t2 rp => ?_⟩
  obtain ⟨k1, h2⟩ := h2
  refine ⟨S2, B2, _, ok2, h2, fun r S3 y B3 H3 h3 ok3 t3 rr => ?_⟩
  obtain ⟨k2, k3, hg, h3⟩ := h3
  have t1 := t1.nil
  have t2 := t2.nil
  have t3 := t3.nil
  have rx3 := (rx.mv t2.left k1).mv t3.left k2
  have rp3 := rp.mv t3.left k3
  obtain ⟨i0, q, a, ts, rfl, e, h3⟩ := atL_of h3
  generalize er : pk S3 r = d at h3
  cases d <;> first | exact h3.elim | skip
  rename_i m
  obtain ⟨j, ej, h3⟩ := optK_some h3
  obtain ⟨S', e2, h3⟩ := optK_some h3
  obtain ⟨rfl, ws, ha, hw'⟩ := lst_at ok3 e rp3
  have tt : Tr B H (feet S) B3 H3 (feet S3 ++ footP x) := t1.temp (t2.left.trans t3.left)
  obtain ⟨ok', tr'⟩ := set_lst (F := footP x) ok3 (ok.tr.trans tt) e e2 hw' rx3 fun b hb => hb
  refine ⟨a, ws, m, j, rfl, pk_int ok3.rep rr er, ha, by rw [hw'.len]; exact ej, ?_⟩
  exact n S' σ B3 _ h3 ok' tt.sub
end

/-! ### o.f = e -/
def insPut (a C : Addr) (f : Str) (ns : List Str) (ts : List T) (t : T) : T := match fpos f ns with
  | some j => .ins a C ns (ts.set j t)
  | none => .ins a C (ns ++ [f]) (ts ++ [t])
def wStF (C : Addr) (f : Str) (fv fo : WE) : WS := fun S k => fv S (fun x S1 => fo S1 (fun p S2 => okAt x S1 S2 ∧ goes x = true ∧ match p with
  | .at i q => match node S2 i q with
    | some (.ins a C' ns ts) => C' = C ∧ ns.length < 900 ∧ optK (putN S2 i q (insPut a C f ns ts (pT x))) k.nx
    | _ => False
  | _ => False) k.ex) k.ex
theorem putF_some {f : Str} {v : V} : ∀ {ns : List Str} {ws : List V} {j : Nat}, fpos f ns = some j → ws.length = ns.length → putF f v (ns.zip ws) = ns.zip (ws.set j v)
  | [], _, _, h, _ => by simp [fpos] at h
  | g :: ns, [], _, _, hl => by simp at hl
  | g :: ns, w :: ws, j, h, hl => by
    simp only [fpos] at h
    rw [List.zip_cons_cons]
    by_cases q : f = g
    · rw [if_pos q] at h
      cases h
      subst q
      show (if f = f then (f, v) :: ns.zip ws else _) = _
      rw [if_pos rfl]; rfl
    · rw [if_neg q] at h
      cases z : fpos f ns with
      | none => rw [z] at h; cases h
      | some k =>
        rw [z] at h
        have hj : k + 1 = j := Option.some.inj h
        subst hj
        show (if g = f then (g, v) :: ns.zip ws else (g, w) :: putF f v (ns.zip ws)) = _
        rw [if_neg (fun e => q e.symm), putF_some z (by simpa using hl)]
        rfl
theorem putF_none {f : Str} {v : V} : ∀ {ns : List Str} {ws : List V}, fpos f ns = none → ws.length = ns.length → putF f v (ns.zip ws) = (ns ++ [f]).zip (ws ++ [v])
  | [], [], _, _ => rfl
  | [], _ :: _, _, hl => by simp at hl
  | g :: ns, [], _, hl => by simp at hl
  | g :: ns, w :: ws, h, hl => by
    simp only [fpos] at h
    by_cases q : f = g
    · rw [if_pos q] at h; cases h
    · rw [if_neg q] at h
      have z : fpos f ns = none := by
        cases z : fpos f ns with
        | none => rfl
        | some k => rw [z] at h; cases h
      rw [List.zip_cons_cons]
      show (if g = f then (g, v) :: ns.zip ws else (g, w) :: putF f v (ns.zip ws)) = _
      rw [if_neg (fun e => q e.symm), putF_none z (by simpa using hl)]
      rfl
section
variable {K : PySem.W.Frag} {c : Ct} {B H : Hp} {S S' : List T} {σ : L2.St} {F : List Addr}
theorem put_ins {i : Nat} {q : List Nat} {a C dx : Addr} {ns : List Str} {f : Str} {ts : List T} {ws : List V} {x : P} {w : V} (ok : Ok K c B H S σ) (tr0 : Tr c.B0 c.H0 c.F0 B H (feet S ++ F)) (e : node S i q = some (.ins a C ns ts)) (e2 : putN S i q (insPut a C f ns ts (pT x)) = some S')
    (hl : ws.length = ns.length) (hw : RepTs K c.R B H ts ws) (rx : RepP K c.R B H S x w) (hF : ∀ b ∈ footP x, b ∈ F) : Ok K c B (upd H a (.ins C dx (putF f w (ns.zip ws)))) S' σ ∧ Tr B H (feet S ++ F) B (upd H a (.ins C dx (putF f w (ns.zip ws)))) (feet S') := by
  obtain ⟨x1, x2, x3⟩ := pT_rep rx
  have hnd := node_nd ok.rep e
  simp only [foot] at hnd
  obtain ⟨hnd1, hnd⟩ := List.nodup_cons.mp hnd
  have haS : a ∈ feet S := node_feet e a (by simp [foot])
  have fx : ∀ b ∈ foot (pT x), b ∈ F ∧ b ∉ feet S ∧ B b = none ∧ c.R b = none := fun b hb => by
    rw [x2] at hb
    exact ⟨hF b hb, (rx.some hb).2⟩
  have off : ∀ b ∈ foot (pT x), b ∉ feet ts := fun b hb z => (fx b hb).2.1 (node_feet e b (by simp [foot, z]))
  have hup : ∀ {ts' : List T} {ws' : List V}, RepTs K c.R B H ts' ws' → (∀ b ∈ feet ts', b ∈ feet ts ∨ b ∈ foot (pT x)) → RepTs K c.R B (upd H a (.ins C dx (putF f w (ns.zip ws)))) ts' ws' := fun r h => r.mono (Sub.refl B) fun b o hb e => by
    rw [upd_ne (fun z : b = a => ?_)]; · exact e
    subst z
    rcases h b hb with y | y
    · exact hnd1 y
    · exact (fx b y).2.1 haS
  have main : ∃ ns' ts', insPut a C f ns ts (pT x) = .ins a C ns' ts' ∧ RepT K c.R B (upd H a (.ins C dx (putF f w (ns.zip ws)))) (.ins a C ns' ts') (.ref a) ∧ (feet ts').Nodup ∧ ∀ b ∈ feet ts', b ∈ feet ts ∨ b ∈ foot (pT x) := by
    cases z : fpos f ns with
    | some j =>
      have hS : ∀ b ∈ feet (ts.set j (pT x)), b ∈ feet ts ∨ b ∈ foot (pT x) := fun b hb => (feet_set_mem hb).symm
      refine ⟨ns, ts.set j (pT x), by unfold insPut; rw [z], ?_, feet_set_nodup hnd (by rw [x2]; exact x3) fun b hb hz => absurd hz (off b hb), hS⟩
      unfold RepT
      exact ⟨rfl, dx, ws.set j w, by rw [upd_same, putF_some z hl], by rw [List.length_set]; exact hl, hup (hw.set x1) hS⟩
    | none =>
      have hS : ∀ b ∈ feet (ts ++ [pT x]), b ∈ feet ts ∨ b ∈ foot (pT x) := fun b hb => by
        rw [feet_append, feet_one] at hb
        exact List.mem_append.mp hb
      refine ⟨ns ++ [f], ts ++ [pT x], by unfold insPut; rw [z], ?_, ?_, hS⟩
      · unfold RepT
        exact ⟨rfl, dx, ws ++ [w], by rw [upd_same, putF_none z hl], by simp [hl], hup (hw.append (RepTs.one x1)) hS⟩
      · rw [feet_append, feet_one]
        exact List.nodup_append.mpr ⟨hnd, by rw [x2]; exact x3, fun y hy b hb ez => by subst ez; exact off y hb hy⟩
  obtain ⟨ns', ts', e3, r3, n3, h3⟩ := main
  rw [e3] at e2
  obtain ⟨ok', t, _⟩ := chg (F := F) ok tr0 e rfl e2 r3 (by
    simp only [foot]
    refine List.nodup_cons.mpr ⟨fun z => ?_, n3⟩
    rcases h3 a z with y | y
    · exact hnd1 y
    · exact (fx a y).2.1 haS) fun b hb => by
    rcases List.mem_cons.mp (show b ∈ a :: feet ts' by simpa [foot] using hb) with z | z
    · subst z; exact .inl (by simp [foot])
    · rcases h3 b z with y | y
      · exact .inl (by simp [foot, y])
      · exact .inr (fx b y)
  refine ⟨ok', ?_⟩
  have := t [] fun b hb => by simp at hb
  rwa [List.append_nil] at this
end
section
variable {X : Cx} {c : Ct} {Ke : KE} {v o i e : Expr} {fv fo fi : WE} {pos p1 : Pos}
theorem i_setF {C : Addr} {f : Str} (hC : Cls X.K C) (hN : NoAttr X.K C f) (hv : PE X v (tE X.K c Ke fv)) (ho : PE X o (tE X.K c Ke fo)) (hs : swapsWith v (some (.Attribute o f p1)) pos.line X.env = pure false := by rfl) : PS X (.Assign [.Attribute o f p1] v pos) (tS X.K c Ke (wStF C f fv fo)) := by
  refine wkS (ps_fld ho hv hs) ?_
  rintro D σ H ⟨S, B, k, ok, h, rfl, n, bk, ct, rt⟩
  refine ⟨S, B, _, ok, h, fun x S1 w B1 H1 h1 ok1 t1 rx => ?_⟩
  refine ⟨S1, B1, _, ok1, h1, fun p S2 u B2 H2 h2 ok2 t2 rp => ?_⟩
  obtain ⟨k1, hg, h2⟩ := h2
  have t1 := t1.nil
  have t2 := t2.nil
  have rx2 := rx.mv t2.left k1
  cases p <;> simp only at h2 <;> first | exact h2.elim | skip
  rename_i i0 q
  split at h2
  · rename_i a C' ns ts e
    obtain ⟨rfl, hl, h2⟩ := h2
    obtain ⟨S', e2, h2⟩ := optK_some h2
    have rn := ok2.rep.node e rfl
    unfold RepP at rp
    obtain ⟨t', a', e', ea, rfl⟩ := rp
    rw [e] at e'
    cases e'
    cases ea
    unfold RepT at rn
    obtain ⟨_, dx, ws, ha, hlen, hw⟩ := rn
    have tt : Tr B H (feet S) B2 H2 (feet S2 ++ footP x) := t1.temp t2.left
    obtain ⟨ok', tr'⟩ := put_ins (F := footP x) (dx := dx) ok2 (ok.tr.trans tt) e e2 hlen hw rx2 fun b hb => hb
    refine ⟨a, _, dx, _, rfl, ha, hC, hN, ?_, n S' σ B2 _ h2 ok' tt.sub⟩
    rw [List.length_zip]
    omega
  · exact h2.elim
end

/-! ### op= -/
def wAugN (i : Nat) (g : O2) (f : WE) : WS := fun S k => wVar i S (fun p S1 => f S1 (fun q S2 => okAt p S1 S2 ∧ g S2 p q fun r S3 => sto i r S3 k.nx) k.ex) k.ex
def wAugI (F : Int → Int → Int) (fo fi f : WE) : WS := fun S k => fo S (fun p S1 => fi S1 (fun r S2 => okAt p S1 S2 ∧ atL S2 p fun _ _ _ ts => match pk S2 r with
  | .int n => optK (ixN ts.length n) fun j => match ts[j]? with
    | some (.sh (.int m)) => f S2 (fun y S4 => okAt p S2 S4 ∧ match pk S4 y with
      | .int d => atL S4 p fun i q a ts' => optK (ixN ts'.length n) fun j' => optK (putN S4 i q (.lst a (ts'.set j' (.sh (.int (F m d)))))) k.nx
      | _ => False) k.ex
    | _ => False
  | _ => False) k.ex) k.ex
section
variable {X : Cx}
theorem pget_list : PGet X (rIxL X.K) := by
  intro pins s σ H x y v u Q I rx ry h
  obtain ⟨p, xs, i, z, rfl, rfl, hq, he, q⟩ := h
  cases rx
  obtain ⟨t, rfl⟩ := ry
  obtain ⟨its, r, pl, hz⟩ := I.list hq
  obtain ⟨j, h1, h2, h3, h4, h5⟩ := atI_get he
  obtain ⟨w, ew, rw'⟩ := r.get h2
  have hl := r.length
  have hn := line63
  have fin : EP X pins σ Q w s := ⟨z, H, I, rw', q⟩
  by_cases h0 : 0 ≤ i
  · have hj : i.toNat = j := by
      rw [seqIndex_of h0 h5] at h1
      exact Option.some.inj h1
    exact wpAny_getItem_list pl.isList h0 (by omega) (by rw [hj]; simpa using ew) fin
  · have hj : (i + (its.toArray.size : Int)).toNat = j := by
      rw [seqIndex_neg (by omega) h4] at h1
      rw [List.size_toArray, ← hl]
      exact Option.some.inj h1
    exact wpAny_getItem_list_neg pl.isList (by omega) (by rw [List.size_toArray] <;> omega) (by omega) (by rw [hj]; simpa using ew) fin
theorem pget_tup : PGet X (rIxT X.K) := by
  intro pins s σ H x y v u Q I rx ry h
  obtain ⟨p, xs, i, z, rfl, rfl, hq, he, q⟩ := h
  cases rx
  obtain ⟨t, rfl⟩ := ry
  obtain ⟨its, r, pl, hz⟩ := I.tuple hq
  obtain ⟨j, h1, h2, h3, h4, h5⟩ := atI_get he
  obtain ⟨w, ew, rw'⟩ := r.get h2
  have hl := r.length
  have hn := line63
  exact getItem_tuple (j := j) pl (by omega) (by omega) (by rw [List.size_toArray, ← hl]; exact h1) (by simpa using ew) ⟨z, H, I, rw', q⟩
theorem pget_lt : PGet X (rIxLT X.K) := by
  intro pins s σ H x y v u Q I rx ry h
  rcases h with h | h
  · exact pget_list pins s σ H x y v u Q I rx ry h
  · exact pget_tup pins s σ H x y v u Q I rx ry h
end
section
variable {X : Cx} {c : Ct} {Ke : KE} {v o i e : Expr} {fv fo fi f : WE} {pos p1 : Pos}
theorem i_augN {i : Nat} {x : Str} {op : Operator} {r : R2} {g : O2} {pos' : Pos} (hN : X.N.Nodup) (hi : X.N[i]? = some x) (hx : Loc X.env.scope x) (he : PE X e (tE X.K c Ke f)) (ho : OpR X (inplaceOp op) r) (hg : Op2 X.K r g) (hf : X.fn x = true ∨ X.env.scope.names.lookup x = some .local := by first | exact .inl rfl | exact .inr rfl | assumption) :
    PS X (.AugAssign (.Name x pos') op e pos) (tS X.K c Ke (wAugN i g f)) := by
  refine wkS (ps_aug hN hi hx he (ti := r) ho hf) ?_
  rintro D σ H ⟨S, B, k, ok, h, rfl, n, bk, ct, rt⟩
  have key : ∀ (p : P) (v : V), RepP X.K c.R B H S p v → footP p = [] → σ[i]? = some (some v) → (f S (fun q S2 => okAt p S S2 ∧ g S2 p q fun r S3 => sto i r S3 k.nx) k.ex) →
      ∃ x, σ[i]? = some (some x) ∧ tE X.K c k.ex f σ H fun y H1 => r x y H1 fun z H2 => D.nx (σ.set i (some z)) H2 := fun p v rp hfp e1 h => by
    refine ⟨v, e1, S, B, _, ok, h, fun q S2 w B2 H2 h2 ok2 t2 rq => ?_⟩
    obtain ⟨k1, h2⟩ := h2
    have t2 := t2.nil
    refine hg c B2 H2 S2 σ p q v w _ _ ok2 (by rw [hfp, List.nil_append]; exact ok.tr.trans t2) (rp.mv t2.left k1) rq (fun a ha => by rw [hfp] at ha; simp at ha) h2 fun z S3 u B3 H3 h3 ok3 t3 rz => ?_
    rw [hfp, List.nil_append] at t3
    have tt := t2.trans t3
    refine sto_ok ok3 (ok.tr.trans tt) rz h3 fun S' σ' B' hk ok' eB _ _ => n S' σ' B' H3 hk ok' (by rw [eB]; exact tt.sub)
  unfold wAugN wVar at h
  cases e : S[i]? with
  | none => rw [e] at h; exact h.elim
  | some t =>
    rw [e] at h
    have own : ∀ a, SL.adr t = some a → (f S (fun q S2 => okAt (.at i []) S S2 ∧ g S2 (.at i []) q fun r S3 => sto i r S3 k.nx) k.ex) → ∃ x, σ[i]? = some (some x) ∧ tE X.K c k.ex f σ H fun y H1 => r x y H1 fun z H2 => D.nx (σ.set i (some z)) H2 := fun a ea hf => by
      rcases ok.rep.sl i t e with rfl | ⟨v, e1, h1⟩
      · cases ea
      · have hn : SL.node S i [] = some t := by unfold SL.node; rw [e]; rfl
        exact key (.at i []) v ⟨t, a, hn, ea, h1.adr ea⟩ rfl e1 hf
    cases t with
    | un => exact h.elim
    | sh d =>
      rcases ok.rep.sl i _ e with z | ⟨v, e1, h1⟩
      · cases z
      · unfold RepT at h1; exact key (.sh d) v h1 rfl e1 h
    | br d =>
      rcases ok.rep.sl i _ e with z | ⟨v, e1, h1⟩
      · cases z
      · unfold RepT at h1; exact key (.br d) v h1 rfl e1 h
    | lst a ts => exact own a rfl h
    | ins a C ns ts => exact own a rfl h
    | dT a kvs => exact own a rfl h
theorem i_augI {op : Operator} {F : Int → Int → Int} {tpos : Pos} (ho : PE X o (tE X.K c Ke fo)) (hi : PE X i (tE X.K c Ke fi)) (he : PE X e (tE X.K c Ke f)) (hop : OpR X (inplaceOp op) (rI0 fun i j => .int (F i j)))
    (ha : ∀ ov iv new, augStore i ov iv new = (do holding [new, ov, iv] (setItem ov iv new); release [new, ov, iv] []; pure .next) := by intros; rfl) : PS X (.AugAssign (.Subscript o i tpos) op e pos) (tS X.K c Ke (wAugI F fo fi f)) := by
  refine wkS (ps_augS ho hi pget_list he hop set_list ha) ?_
  rintro D σ H ⟨S, B, k, ok, h, rfl, n, bk, ct, rt⟩
  refine ⟨S, B, _, ok, h, fun p S1 w B1 H1 h1 ok1 t1 rp => ?_⟩
  refine ⟨S1, B1, _, ok1, h1, fun q S2 u B2 H2 h2 ok2 t2 rq => ?_⟩
  obtain ⟨k1, h2⟩ := h2
  have t1 := t1.nil
  have t2 := t2.nil
  have rp2 := rp.mv t2.left k1
  obtain ⟨i0, q0, a, ts, rfl, e1, h2⟩ := atL_of h2
  generalize er : pk S2 q = d at h2
  cases d <;> first | exact h2.elim | skip
  rename_i m
  obtain ⟨j, ej, h2⟩ := optK_some h2
  split at h2
  · rename_i z et
    obtain ⟨rfl, ws, ha', hw⟩ := lst_at ok2 e1 rp2
    obtain ⟨w', ew, rw'⟩ := hw.get et
    have ew' : w' = .int z := by unfold RepT RepD at rw'; exact rw'
    subst ew'
    have ui := pk_int ok2.rep rq er
    refine ⟨a, ws, m, .int z, rfl, ui, SqL.of ha', ?_, S2, B2, _, ok2, h2, fun y S4 v4 B4 H4 h4 ok4 t4 ry => ?_⟩
    · unfold atI; rw [hw.len, ej]; exact ew
    · obtain ⟨k2, h4⟩ := h4
      have t4 := t4.nil
      have rp4 := rp2.mv t4.left k2
      generalize ey : pk S4 y = d at h4
      cases d <;> first | exact h4.elim | skip
      rename_i dd
      refine ⟨z, dd, rfl, pk_int ok4.rep ry ey, ?_⟩
      obtain ⟨i1, q1, a1, ts', e5, e6, h4⟩ := atL_of h4
      cases e5
      obtain ⟨j', ej', h4⟩ := optK_some h4
      obtain ⟨S', e7, h9⟩ := optK_some h4
      obtain ⟨ea1, ws', ha4, hw4⟩ := lst_at ok4 e6 rp4
      cases ea1
      have tt := (t1.left.trans t2.left).trans t4.left
      obtain ⟨ok', tr'⟩ := set_lst (F := []) (x := .sh (.int (F z dd))) (w := .int (F z dd)) ok4 (ok.tr.trans tt).nil' e6 e7 hw4 (flat_int _ X.K B4) fun b hb => by simp [footP] at hb
      exact ⟨a, ws', m, j', rfl, ui, ha4, by rw [hw4.len]; exact ej', n S' σ B4 _ h9 ok' tt.sub⟩
  · exact h2.elim
end
end SL

set_option Elab.async false
set_option linter.all false
set_option maxRecDepth 100000
set_option maxHeartbeats 4000000
/-! SL17: own exceptions whose __init__ says super().__init__(..), then keeps its arguments. -/
namespace SLX
open PySem PySem.W PySem.Calls PyProof.Rows PySem.HandSPX

def sArg (p : Pos) (n : Str) : Arg := { arg := n, annotation := none, pos := p }
def sArgs (as : List Arg) : Arguments := { posonlyargs := [], args := as, vararg := none, kwonlyargs := [], kw_defaults := [], kwarg := none, defaults := [] }
def sSup (e : Expr) (q0 q1 q2 q3 q4 : Pos) : Stmt := .Expr (.Call (.Attribute (.Call (.Name "super" q0) [] [] q1) "__init__" q2) [e] [] q3) q4
def sKeep (n : Str) (q1 q2 q3 q4 : Pos) : Stmt := .Assign [.Attribute (.Name "self" q1) n q2] (.Name n q3) q4
def sNames (ns : List Str) : List (Str × NameKind) := (ns.map fun n => (n, NameKind.local)) ++ [(PySem.Str.ofString "__class__", .free), (PySem.Str.ofString "super", .globalImplicit)]
def sScope (ns : List Str) : Scope := { kind := .function, names := sNames ns, isGenerator := false, isCoroutine := false, more := [] }
abbrev veB : List Value := [.type "ValueError", .type "Exception", .type "BaseException", .type "object"]

/-- what the written part says of the class at C and its __init__ at fI; the text of __init__: as, body, ns -/
structure Txt (prog : Program) (K : Frag) (C fI : Addr) (qual : Str) (as : List Arg) (body : List Stmt) (ns : List Str) : Prop where
  cdt : ∃ cd, clsIn K C = some cd ∧ refsVE cd.mro = true ∧ cd.hasDict = true
  ein : excInitIn K C veB "ValueError.__new__" = true
  sa : findIn K (.ref C) "__setattr__" = some (some (.builtin "object.__setattr__"))
  iC : findIn K (.ref C) "__init__" = some (some (.ref fI))
  tI : typeIn K (.ref fI) = some (.type "function")
  kC : keepIn K (.ref C) = true
  exC : subIn K (.ref C) (.type "BaseException") = some true
  tyC : typeIn K (.ref C) = some (.type "type")
  sup : ks_superIn K C C "__init__" = some (some (.builtin "ValueError.__init__"))
  veS : subIn K (.ref C) (.type "ValueError") = some true
  self : mroIn K C (.ref C) = some true
  opq : nsIn K cStatics "thirdparty.any" = some none
  supn : nsIn K mainGlobals "super" = some none
  top : (prog.main.scope.names.lookup ("super" : Str)).isSome = false
  fn : ∃ (oc : Value) (od : Option Addr) (doc pm : Value) (an : Option Addr) (cda : Addr) (ct : Value) (osl : Array (Option Value)) (cc : Addr) (cl : Value) (cld : Option Addr) (csl : Array (Option Value)) (ccl : Value) (cdd : Option Addr) (vs : Array Value) (ccs : Array (Option Value)) (file : Str) (tf : Tok),
    K.lookup fI = some ⟨oc, od, .func (ksFn "__init__" qual (sArgs as) body (sScope ns) .none .none doc pm an (.ref cda) ct cc), osl⟩ ∧ codeIn K (.ref cda) qual = true ∧
    K.lookup cc = some ⟨cl, cld, .cell (some (.ref C)), csl⟩ ∧ K.lookup cda = some ⟨ccl, cdd, .fields vs, ccs⟩ ∧ vs[2]? = some (.str file tf) ∧ ((prog.main.file : Str) == file) = true

section
variable {prog : Program} {w : World} {A : Around} {E : Value → Shared → Prop} {R : Result → Shared → Prop} {s : Shared} {K : Frag} {mg mb : Str → Option Value} {C fI L x : Addr} {h₀ : Heap} {m : Str → Option Value} {qual : Str}
theorem cls_data {prog : Program} {as : List Arg} {body : List Stmt} {ns : List Str} (T : Txt prog K C fI qual as body ns) : ∃ cd, clsIn K C = some cd ∧ refsVE cd.mro = true ∧ cd.hasDict = true := by
  exact T.cdt
/-- super().__init__(e), e a name or a constant -/
theorem sup_step {pl : Sem Bool} {as : List Arg} {body : List Stmt} {ns : List Str} (T : Txt prog K C fI qual as body ns) {e : Expr} {q0 q1 q2 q3 q4 : Pos} {cda cc t0 : Addr} {fd : FuncData} {body0 : List Stmt} {Q : Flow → Shared → Prop}
    {oc : Value} {od : Option Addr} {osl : Array (Option Value)} {cl : Value} {cld : Option Addr} {csl : Array (Option Value)} {ccl : Value} {cdd : Option Addr} {vs : Array Value} {ccs : Array (Option Value)} {file : Str} {tf : Tok}
    (F : Fr h₀ L s.heap m) (X₀ : K.In h₀) (N : News h₀ L s.heap [(x, excObj C t0 none .none)]) (G : s.heap.Ns mainGlobals mg) (Bn : s.heap.Ns builtinsNs mb) (hmb : mb "super" = some (.type "super"))
    (hfI : K.lookup fI = some ⟨oc, od, .func fd, osl⟩) (hpar : (fd.params.posonlyargs ++ fd.params.args).head? = some (as.headD default)) (has : as.headD default = sArg (as.headD default).pos "self") (hself : m "self" = some (.ref x))
    (hcell : K.lookup cc = some ⟨cl, cld, .cell (some (.ref C)), csl⟩) (hcode : K.lookup cda = some ⟨ccl, cdd, .fields vs, ccs⟩) (hvs : vs[2]? = some (.str file tf)) (hfile : ((prog.main.file : Str) == file) = true)
    (hks : (sScope ns).names.lookup ("super" : Str) = some .globalImplicit) (hkc : (sScope ns).names.lookup ("__class__" : Str) = some .free) (hka : (sScope ns).names.lookup ("self" : Str) = some .local)
    (hcall : eval (.Call (.Attribute (.Call (.Name "super" q0) [] [] q1) "__init__" q2) [e] [] q3) (ksEnv qual (sScope ns) L fI (.ref cda) cc) = (do
      let ov ← attributeBase (.Call (.Name "super" q0) [] [] q1) "__init__" (ksEnv qual (sScope ns) L fI (.ref cda) cc) (eval (.Call (.Name "super" q0) [] [] q1) (ksEnv qual (sScope ns) L fI (.ref cda) cc))
      standAt q2.atName
      let (f, first) ← holding [ov] (getMethod ov "__init__" pl)
      callWith q3 f first (backTo q3 (starEach [e] (ksEnv qual (sScope ns) L fI (.ref cda) cc))) []))
    (hsw : swapsWith (.Call (.Attribute (.Call (.Name "super" q0) [] [] q1) "__init__" q2) [e] [] q3) none q4.line (ksEnv qual (sScope ns) L fI (.ref cda) cc) = pure false)
    (hst : starEach [e] (ksEnv qual (sScope ns) L fI (.ref cda) cc) = [(false, eval e (ksEnv qual (sScope ns) L fI (.ref cda) cc))])
    (hev : ∀ (Q : Value → Shared → Prop) (E : Value → Shared → Prop) (s1 : Shared), s1.heap.Ns L m → (∀ u tk, Q u { s1 with toks := tk }) → wpAny (model prog w) A (eval e (ksEnv qual (sScope ns) L fI (.ref cda) cc)) Q E s1)
    (h : ∀ t1 h' tk, Fr h₀ L h' m → h'.get? x = some (excObj C t1 none .none) → Q .next { s with heap := h', toks := tk }) :
    _root_.PySem.wpAt (model prog w) A (.func body0 (ksEnv qual (sScope ns) L fI (.ref cda) cc)) (exec (sSup e q0 q1 q2 q3 q4) (ksEnv qual (sScope ns) L fI (.ref cda) cc)) Q E s := by
  have X : K.In s.heap := X₀.keeps F.keep
  obtain ⟨cd, hcd, hbm, hdct⟩ := cls_data T
  have hx := (N (x, excObj C t0 none .none) (by simp)).1
  have I : InstAt s.heap x (excObj C t0 none .none) C none := ⟨hx, rfl, rfl, trivial⟩
  obtain ⟨hh, g, d, t, os⟩ := s
  obtain ⟨oD, hD1, hD2⟩ : ∃ oD, hh.get? C = some oD ∧ oD.data = .cls cd := by
    unfold clsIn at hcd
    split at hcd
    · rename_i c d cd' sl ho
      cases hcd
      exact ⟨_, X _ _ ho, rfl⟩
    · cases hcd
  refine ks_wpAt_Expr_any (ks_wpAt_MethodCall (pl := pl) ?_ hcall) rfl hsw
  refine ks_wpAt_super_base (env := ksEnv qual (sScope ns) L fI (.ref cda) cc) hks hkc (by decide) rfl (X _ _ hfI) rfl hpar rfl (X _ _ hcode) rfl hvs hfile T.top ?_
  refine ks_loadName_global rfl hks (loadGlobal_builtin (env := ksEnv qual (sScope ns) L fI (.ref cda) cc) G (mg_none_of X G T.supn) Bn hmb ⟨rfl, ?_⟩)
  refine wpAny_loadName_free rfl hkc rfl ⟨_, X _ _ hcell, rfl⟩ ?_
  rw [has]
  refine wpAny_loadName_local rfl hka F.ns hself ?_
  refine ks_wpAny_isType_cls hD1 hD2 ⟨rfl, ?_⟩
  refine ks_wpAny_call_super hD1 hD2 I.at_ I.cls (fun c e => by cases e) (looks_mroIn X T.self) (fun h' e k => ?_)
  obtain ⟨F1, N1, l1⟩ := ks_newsPush (s := ⟨hh, g, d, t, os⟩) F N rfl e k
  have hx1 := k _ _ hx
  refine kxs_method (s := ⟨h', g, d, t, os⟩) (ox := excObj C t0 none .none) (odx := none) kxs_ValueError F1 X₀ N1 List.mem_cons_self ⟨hx1, rfl, rfl, trivial⟩ T.opq T.sup T.veS (by decide) fun q h2 F2 N2 l2 => ?_
  refine kxs_callWith1 N2 List.mem_cons_self ?_ hst rfl
  rw [hst]
  refine spliced_cons (hev _ _ _ F2.ns fun u tk => spliced_nil ⟨(N2 _ List.mem_cons_self).1, ?_⟩)
  refine kxs_call (bmB := veB) (newId := "ValueError.__new__") (C := C) (t := t0) (dv := none) (c2 := .none) F2 X₀ N2 PySem.F.excBase_ValueError T.ein List.mem_cons_self (.tail ?_ (.tail ?_ (.head fun p hp => by simp at hp))) ?_ fun t' h3 F3 N3 l3 => ?_
  · intro z
    have z : q = x := z
    have y : x < q := l2 (x, excObj C t0 none .none) (by simp)
    rw [z] at y
    exact Nat.lt_irrefl _ y
  · intro z
    have z : hh.objs.size = x := z
    have y : x < hh.objs.size := l1 (x, excObj C t0 none .none) (by simp)
    rw [z] at y
    exact Nat.lt_irrefl _ y
  · rw [sizeLine_eq]; exact (by decide : 1 ≤ 16777216)
  · exact h t' h3 _ F3 (N3 (x, excObj C t' none .none) (by simp)).1

/-- what __init__ leaves of a fresh exception at x -/
structure Left (h h' : Heap) (x C dx : Addr) (mA : Str → Option Value) : Prop where
  keep : ∀ b o, b ≠ x → h.get? b = some o → h'.get? b = some o
  obj : ∃ t1 : Addr, h'.get? x = some { cls := .ref C, dict := some dx, data := .fields #[.ref t1, .none, .none, .none, .bool false, .none] }
  dbig : h.objs.size ≤ dx
  dne : dx ≠ x
  ns : h'.Ns1 dx mA
theorem ns_kept {h h' : Heap} {L x : Addr} {m : Str → Option Value} (hn : h.Ns L m) (hne : L ≠ x) (k : ∀ b o, b ≠ x → h.get? b = some o → h'.get? b = some o) : h'.Ns L m := by
  obtain ⟨o, es, ep, ho, r⟩ := hn
  exact ⟨o, es, ep, k _ _ hne ho, r⟩
theorem kept_but {K : Frag} {h h' : Heap} {x : Addr} (X : K.In h) (hx : K.lookup x = none) (k : ∀ b o, b ≠ x → h.get? b = some o → h'.get? b = some o) : K.In h' := fun a o e =>
  k a o (fun z => by rw [z, hx] at e; cases e) (X a o e)
/-- the frame at the entry, the exception beside it -/
theorem entry {h₁ : Heap} (k : ∀ b o, s.heap.get? b = some o → h₁.get? b = some o) (hns : h₁.Ns s.heap.objs.size m) {t0 : Addr} (hx : s.heap.get? x = some (excO C t0)) (X : K.In s.heap) (hnx : K.lookup x = none) :
    Fr (hideAll s.heap [x]) s.heap.objs.size h₁ m ∧ K.In (hideAll s.heap [x]) ∧ News (hideAll s.heap [x]) s.heap.objs.size h₁ [(x, excObj C t0 none .none)] := by
  refine ⟨⟨hns, fun b o e => k b o (of_hideAll _ e), Nat.le_of_eq (hideAll_size _ _)⟩, fun a o e => hideAll_get _ (X a o e) fun z => ?_, fun p hp => ?_⟩
  · have e2 : a = x := by simpa using z
    rw [e2, hnx] at e; cases e
  · have e : p = (x, excObj C t0 none .none) := by simpa using hp
    subst e
    exact ⟨k _ _ hx, Nat.ne_of_lt (Heap.lt_size hx), hideAll_none _ (by simp)⟩
theorem ld {env : Env} {m : Str → Option Value} {y : Str} {pos : Pos} {v : Value} {Q : Value → Shared → Prop} {M : Model} (hn : s.heap.Ns env.locals m) (hv : m y = some v) (h : Q v s)
    (hk : env.scope.kind = .function := by rfl) (hl : env.kindOf y = some .local := by rfl) (hd : (y == ("__debug__" : Str)) = false := by decide) : wpAny M A (eval (.Name y pos) env) Q E s := wpAny_Name (wpAny_loadName_local hk hl hn hv h) hd
def body2 (q : Nat → Pos) : List Stmt := [sSup (.Name "code" (q 0)) (q 1) (q 2) (q 3) (q 4) (q 5), sKeep "at" (q 6) (q 7) (q 8) (q 9), sKeep "code" (q 10) (q 11) (q 12) (q 13)]
def args2 (p1 p2 p3 : Pos) : List Arg := [sArg p1 "self", sArg p2 "at", sArg p3 "code"]
def maps2 (v1 v2 : Value) : Str → Option Value := fun y => if y = "code" then some v2 else if y = "at" then some v1 else none
/-- super().__init__(e) as the text has it -/
def Calls (fI : Addr) (qual : Str) (ns : List Str) (e : Expr) (q0 q1 q2 q3 q4 : Pos) : Prop := ∃ pl : Sem Bool, ∀ (L cda cc : Addr),
  (eval (.Call (.Attribute (.Call (.Name "super" q0) [] [] q1) "__init__" q2) [e] [] q3) (ksEnv qual (sScope ns) L fI (.ref cda) cc) = (do
      let ov ← attributeBase (.Call (.Name "super" q0) [] [] q1) "__init__" (ksEnv qual (sScope ns) L fI (.ref cda) cc) (eval (.Call (.Name "super" q0) [] [] q1) (ksEnv qual (sScope ns) L fI (.ref cda) cc))
      standAt q2.atName
      let (f, first) ← holding [ov] (getMethod ov "__init__" pl)
      callWith q3 f first (backTo q3 (starEach [e] (ksEnv qual (sScope ns) L fI (.ref cda) cc))) [])) ∧
  swapsWith (.Call (.Attribute (.Call (.Name "super" q0) [] [] q1) "__init__" q2) [e] [] q3) none q4.line (ksEnv qual (sScope ns) L fI (.ref cda) cc) = pure false ∧
  starEach [e] (ksEnv qual (sScope ns) L fI (.ref cda) cc) = [(false, eval e (ksEnv qual (sScope ns) L fI (.ref cda) cc))]
theorem init2 {q : Nat → Pos} {p1 p2 p3 : Pos} (T : Txt prog K C fI qual (args2 p1 p2 p3) (body2 q) ["self", "at", "code"]) (hc : Calls fI qual ["self", "at", "code"] (.Name "code" (q 0)) (q 1) (q 2) (q 3) (q 4) (q 5)) (n1 : findIn K (.ref C) "at" = some none) (n2 : findIn K (.ref C) "code" = some none) {t0 : Addr} {v1 v2 : Value}
    (X : K.In s.heap) (hlim : s.heap.NoLimit) (G : s.heap.Ns mainGlobals mg) (Bn : s.heap.Ns builtinsNs mb) (hmb : mb "super" = some (.type "super")) (hx : s.heap.get? x = some (excO C t0)) (hnx : K.lookup x = none) (hroom : A.depth < recursionLimit)
    (hq : ∀ h' tk dx, Left s.heap h' x C dx (maps2 v1 v2) → R (.ok (.ret .none)) { s with heap := h', toks := tk }) :
    codeAny (model prog w) A (.call (.ref fI) ⟨[.ref x, v1, v2], []⟩) R s := by
  obtain ⟨oc, od, doc, pm, an, cda, ct, osl, cc, cl, cld, csl, ccl, cdd, vs, ccs, file, tf, ho, hcd, hcell, hcode, hvs, hfile⟩ := T.fn
  obtain ⟨cd, hcl, hbm, hdct⟩ := cls_data T
  refine ks_codeAny_call_defAt (body := body2 q) (binds := [("self", .ref x), ("at", v1), ("code", v2)]) hroom (X _ _ ho) rfl hlim (codeRec_of X hcd) rfl (BindsTo.of_eq (by first | rfl | with_unfolding_all rfl)) (show ∀ y ∈ sNames ["self", "at", "code"], y.2 ≠ NameKind.cell by decide) (fun y hy => ?_) fun h₁ hns k => ?_
  · simp only [List.mem_cons, List.not_mem_nil, or_false] at hy
    rcases hy with rfl | rfl | rfl <;> rfl
  obtain ⟨F, X₀, N⟩ := entry k hns hx X hnx
  obtain ⟨pl, hc⟩ := hc
  obtain ⟨c1, c2, c3⟩ := hc s.heap.objs.size cda cc
  refine ks_wpAt_execs_cons (sup_step (pl := pl) (s := { s with heap := h₁, toks := s.toks + 3 }) T F X₀ N (G.keeps k) (Bn.keeps k) hmb ho rfl rfl rfl hcell hcode hvs hfile rfl rfl rfl c1 c2 c3 (fun Q E s1 hn hq => ?_) fun t1 h2 tk F2 hx2 => ?_)
  · exact ld hn rfl (hq v2 s1.toks)
  · refine wpAt_of_wpAny (wpAny_execs_cons (plainObj_wpAny_Assign_Attribute ?_))
    have X2 : K.In h2 := X₀.keeps F2.keep
    have kx : ∀ b o, b ≠ x → s.heap.get? b = some o → h2.get? b = some o := fun b o hb e => F2.keep b o (hideAll_get _ e (by simp [hb]))
    have hLx : s.heap.objs.size ≠ x := Nat.ne_of_gt (Heap.lt_size hx)
    have hlt : s.heap.objs.size < h2.objs.size := F2.ns.lt
    refine ld (v := v1) F2.ns rfl (ld (v := .ref x) F2.ns rfl ?_)
    refine set_plain X2 (ox := excObj C t1 none .none) (od := none) ⟨hx2, rfl, rfl, trivial⟩ T.sa ?_
    refine exc_osa X2 hx2 hcl hbm hdct n1 fun h3 tk3 dx k3 dn dne hx3 hn3 => ?_
    have hn4 : h3.Ns s.heap.objs.size _ := ns_kept F2.ns hLx k3
    have X3 := kept_but X2 hnx k3
    refine wpAny_execs_cons (plainObj_wpAny_Assign_Attribute ?_)
    refine ld (v := v2) hn4 rfl (ld (v := .ref x) hn4 rfl ?_)
    obtain ⟨oD, _, _, hoD, _, _⟩ := hn3.count (Within.cons "at" v1 Within.nil)
    refine set_plain X3 (ox := excObj C t1 (some dx) .none) (od := some oD) ⟨hx3, rfl, rfl, hoD⟩ T.sa ?_
    refine PySem.OEX.osa_old X3 hx3 hn3 (Within.cons "at" v1 Within.nil) (by simp) hcl hbm hdct n2 fun h4 tk4 k4 hn5 => ?_
    refine wpAny_execs_nil (hq h4 tk4 dx ⟨fun b o hb e => ?_, ⟨t1, k4 _ _ dne.symm hx3⟩, Nat.le_of_lt (Nat.lt_of_lt_of_le hlt dn), dne, hn5⟩)
    have e1 : b ≠ dx := Nat.ne_of_lt (Nat.lt_of_lt_of_le (Nat.lt_trans (Heap.lt_size e) hlt) dn)
    exact k4 b o e1 (k3 b o hb (kx b o hb e))

def body1 (c : Const) (j : Nat) (q : Nat → Pos) : List Stmt := [sSup (.Constant c j (q 0)) (q 1) (q 2) (q 3) (q 4) (q 5), sKeep "reason" (q 6) (q 7) (q 8) (q 9)]
def args1 (p1 p2 : Pos) : List Arg := [sArg p1 "self", sArg p2 "reason"]
def maps1 (v1 : Value) : Str → Option Value := fun y => if y = "reason" then some v1 else none
theorem init1 {z : Str} {j : Nat} {q : Nat → Pos} {p1 p2 : Pos} (T : Txt prog K C fI qual (args1 p1 p2) (body1 (.str z) j q) ["self", "reason"]) (hc : Calls fI qual ["self", "reason"] (.Constant (.str z) j (q 0)) (q 1) (q 2) (q 3) (q 4) (q 5)) (n1 : findIn K (.ref C) "reason" = some none) {t0 : Addr} {v1 : Value}
    (X : K.In s.heap) (hlim : s.heap.NoLimit) (G : s.heap.Ns mainGlobals mg) (Bn : s.heap.Ns builtinsNs mb) (hmb : mb "super" = some (.type "super")) (hx : s.heap.get? x = some (excO C t0)) (hnx : K.lookup x = none) (hroom : A.depth < recursionLimit)
    (hq : ∀ h' tk dx, Left s.heap h' x C dx (maps1 v1) → R (.ok (.ret .none)) { s with heap := h', toks := tk }) :
    codeAny (model prog w) A (.call (.ref fI) ⟨[.ref x, v1], []⟩) R s := by
  obtain ⟨oc, od, doc, pm, an, cda, ct, osl, cc, cl, cld, csl, ccl, cdd, vs, ccs, file, tf, ho, hcd, hcell, hcode, hvs, hfile⟩ := T.fn
  obtain ⟨cd, hcl, hbm, hdct⟩ := cls_data T
  refine ks_codeAny_call_defAt (body := body1 (.str z) j q) (binds := [("self", .ref x), ("reason", v1)]) hroom (X _ _ ho) rfl hlim (codeRec_of X hcd) rfl (BindsTo.of_eq (by first | rfl | with_unfolding_all rfl)) (show ∀ y ∈ sNames ["self", "reason"], y.2 ≠ NameKind.cell by decide) (fun y hy => ?_) fun h₁ hns k => ?_
  · simp only [List.mem_cons, List.not_mem_nil, or_false] at hy
    rcases hy with rfl | rfl <;> rfl
  obtain ⟨F, X₀, N⟩ := entry k hns hx X hnx
  obtain ⟨pl, hc⟩ := hc
  obtain ⟨c1, c2, c3⟩ := hc s.heap.objs.size cda cc
  refine ks_wpAt_execs_cons (sup_step (pl := pl) (s := { s with heap := h₁, toks := s.toks + 2 }) T F X₀ N (G.keeps k) (Bn.keeps k) hmb ho rfl rfl rfl hcell hcode hvs hfile rfl rfl rfl c1 c2 c3 (fun Q E s1 hn hq => ?_) fun t1 h2 tk F2 hx2 => ?_)
  · exact wpAny_Constant_str (hq _ _)
  · refine wpAt_of_wpAny (wpAny_execs_cons (plainObj_wpAny_Assign_Attribute ?_))
    have X2 : K.In h2 := X₀.keeps F2.keep
    have kx : ∀ b o, b ≠ x → s.heap.get? b = some o → h2.get? b = some o := fun b o hb e => F2.keep b o (hideAll_get _ e (by simp [hb]))
    have hlt : s.heap.objs.size < h2.objs.size := F2.ns.lt
    refine ld (v := v1) F2.ns rfl (ld (v := .ref x) F2.ns rfl ?_)
    refine set_plain X2 (ox := excObj C t1 none .none) (od := none) ⟨hx2, rfl, rfl, trivial⟩ T.sa ?_
    refine exc_osa X2 hx2 hcl hbm hdct n1 fun h3 tk3 dx k3 dn dne hx3 hn3 => ?_
    exact wpAny_execs_nil (hq h3 tk3 dx ⟨fun b o hb e => k3 b o hb (kx b o hb e), ⟨t1, hx3⟩, Nat.le_of_lt (Nat.lt_of_lt_of_le hlt dn), dne, hn3⟩)

/-! ### made -/
structure Made (h h' : Heap) (e C d : Addr) (mA : Str → Option Value) : Prop where
  keep : ∀ b o, h.get? b = some o → h'.get? b = some o
  new : h.objs.size ≤ e
  obj : ∃ t1 : Addr, h'.get? e = some { cls := .ref C, dict := some d, data := .fields #[.ref t1, .none, .none, .none, .bool false, .none] }
  dbig : h.objs.size ≤ d
  dne : d ≠ e
  ns : h'.Ns1 d mA
theorem made_of {as : List Arg} {body : List Stmt} {ns : List Str} (T : Txt prog K C fI qual as body ns) {us : List Value} {mA : Str → Option Value} (hus : us.length ≤ sizeLine) (X : K.In s.heap) (hlim : s.heap.NoLimit) (G : s.heap.Ns mainGlobals mg) (Bn : s.heap.Ns builtinsNs mb) (hroom : A.depth + 1 < recursionLimit)
    (init : ∀ (A : Around) (R : Result → Shared → Prop) (s : Shared) (x t0 : Addr), K.In s.heap → s.heap.NoLimit → s.heap.Ns mainGlobals mg → s.heap.Ns builtinsNs mb → s.heap.get? x = some (excO C t0) → K.lookup x = none → A.depth < recursionLimit →
      (∀ h' tk dx, Left s.heap h' x C dx mA → R (.ok (.ret .none)) { s with heap := h', toks := tk }) → codeAny (model prog w) A (.call (.ref fI) ⟨.ref x :: us, []⟩) R s)
    (hq : ∀ h' tk e d, Made s.heap h' e C d mA → R (.ok (.ret (.ref e))) { s with heap := h', toks := tk }) :
    codeAny (model prog w) A (.call (.ref C) ⟨us, []⟩) R s := by
  obtain ⟨nm, N, qn, bs, bm, hdct, sn, sub, ab, col, dd, k0, k1, k2, k3, k5, hC, hT⟩ := excInit_of X T.ein
  obtain ⟨hp, g, dr, tk, os⟩ := s
  have k : ∀ b o, hp.get? b = some o → ((hp.push (kdv_tup us)).push (excO C hp.objs.size)).get? b = some o := fun b o e => Heap.get?_push_of_some _ (Heap.get?_push_of_some _ e)
  have hget : ((hp.push (kdv_tup us)).push (excO C hp.objs.size)).get? (hp.objs.size + 1) = some (excO C hp.objs.size) := by heap_get
  have hnx : K.lookup (hp.objs.size + 1) = none := by
    cases e : K.lookup (hp.objs.size + 1) with
    | none => rfl
    | some o =>
      have z : hp.get? (hp.objs.size + 1) = some o := X _ _ e
      exact absurd (Nat.lt_of_succ_lt (Heap.lt_size z)) (Nat.lt_irrefl _)
  refine call_own F.excBase_ValueError hT hC (looks_findIn X T.iC) (fun self => bind_fn X self T.tI) hus ?_
  refine init _ _ ⟨(hp.push (kdv_tup us)).push (excO C hp.objs.size), g, dr, tk, os⟩ (hp.objs.size + 1) hp.objs.size (X.keeps k) (hlim.keeps k) (G.keeps k) (Bn.keeps k) hget hnx hroom fun h' tk' dx ⟨k', ⟨t1, hx⟩, dn, dne, hns⟩ => ?_
  have old : ∀ b o, hp.get? b = some o → h'.get? b = some o := fun b o e => k' b o (Nat.ne_of_lt (Nat.lt_succ_of_lt (Heap.lt_size e))) (k b o e)
  have z : hp.objs.size + 1 + 1 ≤ dx := by
    have q := dn
    rw [Heap.size_push, Heap.size_push] at q
    exact q
  exact ⟨rfl, hq h' tk' (hp.objs.size + 1) dx ⟨old, Nat.le_succ _, ⟨t1, hx⟩, Nat.le_trans (Nat.le_trans (Nat.le_succ _) (Nat.le_succ _)) z, dne, hns⟩⟩
end
end SLX

namespace SL
open PySem PySem.Spec PyProof.Rows L2
theorem relO_put0 {fs : List (Str × V)} {mA : Str → Option Value} {f : Str} {y : V} {u : Value} (ry : RelV y u) (r : ∀ g, RelO (fs.lookup g) (mA g)) (g : Str) : RelO (((f, y) :: fs).lookup g) (if g = f then some u else mA g) := relO_put ry r g
theorem relO_none (g : Str) : RelO (([] : List (Str × V)).lookup g) ((fun _ => none : Str → Option Value) g) := True.intro
/-- C(e, ..) of such a class: what is made -/
theorem mk_exc {X : Cx} {pins : List (Addr × Obj)} {σ : L2.St} {H1 : Hp} {s1 : Shared} {C fI : Addr} {qual : Str} {as : List Arg} {body : List Stmt} {ns : List Str} {us : List Value} {fs : List (Str × V)} {mA : Str → Option Value} {Q : XK} {k : Nat} (T : SLX.Txt X.prog X.K C fI qual as body ns) (hr : Room k X.A) (hus : us.length ≤ sizeLine)
    (I1 : Inv X pins σ H1 s1) (rel : ∀ f, RelO (fs.lookup f) (mA f))
    (init : ∀ (A : Around) (R : Result → Shared → Prop) (s : Shared) (x t0 : Addr) (mg mb : Str → Option Value), X.K.In s.heap → s.heap.NoLimit → s.heap.Ns mainGlobals mg → s.heap.Ns builtinsNs mb → mb "super" = some (.type "super") → s.heap.get? x = some (PySem.HandSPX.excO C t0) → X.K.lookup x = none → A.depth < recursionLimit →
      (∀ h' tk dx, SLX.Left s.heap h' x C dx mA → R (.ok (.ret .none)) { s with heap := h', toks := tk }) → codeAny (model X.prog X.w) A (.call (.ref fI) ⟨.ref x :: us, []⟩) R s)
    (q1 : ∀ d, H1 d = none → Q (.ref C) (some d) (upd H1 d (.xd fs))) : wpAny (model X.prog X.w) X.A (call (.ref C) us) (MkP X pins σ Q) X.xe s1 := by
  have hlim := I1.nolimit
  have G : s1.heap.Ns mainGlobals X.mg := I1.ok.mod.glob.keeps fun b o e => (I1.bs b o e).1
  obtain ⟨mb, hb, hbb⟩ := I1.ok.mod.blt
  have Bn : s1.heap.Ns builtinsNs mb := hb.keeps fun b o e => (I1.bs b o e).1
  have hmb : mb "super" = some (.type "super") := (hbb "super" (by decide)).trans (by decide +kernel)
  obtain ⟨hp, g, dr, tk, os⟩ := s1
  refine wpAny_call (SLX.made_of (mg := X.mg) (mb := mb) T hus I1.kIn hlim G Bn (by have := hr.dp; omega) (fun A R s x t0 z1 z2 z3 z4 z5 z6 z7 z8 => init A R s x t0 _ _ z1 z2 z3 z4 hmb z5 z6 z7 z8) fun h' tk' e d M => ?_)
  show MkP X pins σ Q (.ref e) ⟨h', g, dr, tk', os⟩
  obtain ⟨t1, hoe⟩ := M.obj
  have hns := M.ns
  obtain ⟨G', g1, g2⟩ := restrict h' fun b => decide (b ≠ e)
  have gk : ∀ b, b ≠ e → G'.get? b = h'.get? b := fun b hb => g1 b (decide_eq_true hb)
  have ge : G'.get? e = none := g2 e (by simp)
  have old : ∀ b o, hp.get? b = some o → G'.get? b = some o := fun b o q => (gk b (Nat.ne_of_lt (Nat.lt_of_lt_of_le (Heap.lt_size q) M.new))).trans (M.keep b o q)
  have ob : ObjOk X.prog X.w (upd H1 d (.xd fs)) G' d (.xd fs) := ⟨mA, hns.at (fun o q => (gk d M.dne).trans q), rel⟩
  have J : Inv X pins σ (upd H1 d (.xd fs)) ⟨G', g, dr, tk', os⟩ := I1.laid (t' := tk') old M.dbig ob
  refine ⟨e, _, _, ⟨G', g, dr, tk', os⟩, _, .ref C, some d, rfl, J, fun b o q => ?_, ge, hoe, ⟨rfl, rfl⟩, rfl, rfl, ?_, rfl, I1.bare, raises_own T.exC T.tyC, q1 d (I1.hok.fresh M.dbig)⟩
  · by_cases hb : b = e
    · have q' : G'.get? b = some o := q
      rw [hb, ge] at q'; cases q'
    · exact (gk b hb).symm.trans q
  · rw [upd_ne (Ne.symm M.dne)]
    exact I1.hok.fresh M.new
def tMk2 (C : Addr) (ta : TA) : L2.St → Hp → XK → Prop := fun σ H Q => ta σ H fun vs H1 => ∃ v1 v2, vs = [v1, v2] ∧ ∀ d, H1 d = none → Q (.ref C) (some d) (upd H1 d (.xd [(("code" : Str), v2), (("at" : Str), v1)]))
def tMk1 (C : Addr) (ta : TA) : L2.St → Hp → XK → Prop := fun σ H Q => ta σ H fun vs H1 => ∃ v1, vs = [v1] ∧ ∀ d, H1 d = none → Q (.ref C) (some d) (upd H1 d (.xd [(("reason" : Str), v1)]))
section
variable {X : Cx} {C fI : Addr} {qual x : Str} {q : Nat → Pos} {p1 p2 p3 p pos : Pos} {e : Expr} {es : List Expr} {ta : TA} {k : Nat}
theorem pmk2 (T : SLX.Txt X.prog X.K C fI qual (SLX.args2 p1 p2 p3) (SLX.body2 q) ["self", "at", "code"]) (hc : SLX.Calls fI qual ["self", "at", "code"] (.Name "code" (q 0)) (q 1) (q 2) (q 3) (q 4) (q 5)) (n1 : PySem.W.findIn X.K (.ref C) "at" = some none) (n2 : PySem.W.findIn X.K (.ref C) "code" = some none)
    (hr : Room k X.A) (hg : Gl X x) (hm : X.mg x = some (.ref C)) (ha : PA X (e :: es) ta) (hdb : (x == ("__debug__" : Str)) = false := by decide) (he : starEach (e :: es) X.env = (false, eval e X.env) :: starEach es X.env := by rfl) (hpl : (backTo pos (starEach es X.env)).any (·.1) = false := by rfl) :
    PMk X (.Call (.Name x p) (e :: es) [] pos) (tMk2 C ta) := by
  intro pins s σ H Q I h
  refine wpAny_Call_Name_kw (ld_glob I hg hm ?_ hdb)
  refine PySem.W.callWith_K (h₀ := X.base) I.ok.mod.kin T.kC (thn (ha.run pos pins s σ H _ I h) fun us s1 ⟨vs, H1, I1, r, v1, v2, ev, q1⟩ => ⟨I1.kIn, ?_⟩) he hpl
  subst ev
  obtain ⟨u1, u2, rfl, r1, r2⟩ := r.two
  refine mk_exc (mA := SLX.maps2 u1 u2) T hr (by rw [sizeLine_eq]; exact (by decide : 2 ≤ 16777216)) I1 (fun f => relO_put0 r2 (fun g => relO_put0 r1 relO_none g) f) (fun A R s x t0 mg mb z1 z2 z3 z4 z5 z6 z7 z8 z9 => ?_) q1
  exact SLX.init2 T hc n1 n2 z1 z2 z3 z4 z5 z6 z7 z8 z9
theorem pmk1 {z : Str} {j : Nat} (T : SLX.Txt X.prog X.K C fI qual (SLX.args1 p1 p2) (SLX.body1 (.str z) j q) ["self", "reason"]) (hc : SLX.Calls fI qual ["self", "reason"] (.Constant (.str z) j (q 0)) (q 1) (q 2) (q 3) (q 4) (q 5)) (n1 : PySem.W.findIn X.K (.ref C) "reason" = some none)
    (hr : Room k X.A) (hg : Gl X x) (hm : X.mg x = some (.ref C)) (ha : PA X (e :: es) ta) (hdb : (x == ("__debug__" : Str)) = false := by decide) (he : starEach (e :: es) X.env = (false, eval e X.env) :: starEach es X.env := by rfl) (hpl : (backTo pos (starEach es X.env)).any (·.1) = false := by rfl) :
    PMk X (.Call (.Name x p) (e :: es) [] pos) (tMk1 C ta) := by
  intro pins s σ H Q I h
  refine wpAny_Call_Name_kw (ld_glob I hg hm ?_ hdb)
  refine PySem.W.callWith_K (h₀ := X.base) I.ok.mod.kin T.kC (thn (ha.run pos pins s σ H _ I h) fun us s1 ⟨vs, H1, I1, r, v1, ev, q1⟩ => ⟨I1.kIn, ?_⟩) he hpl
  subst ev
  obtain ⟨u1, rfl, r1⟩ := r.one
  refine mk_exc (mA := SLX.maps1 u1) T hr (by rw [sizeLine_eq]; exact (by decide : 1 ≤ 16777216)) I1 (fun f => relO_put0 r1 relO_none f) (fun A R s x t0 mg mb z1 z2 z3 z4 z5 z6 z7 z8 z9 => ?_) q1
  exact SLX.init1 T hc n1 z1 z2 z3 z4 z5 z6 z7 z8 z9

/-! ### raise -/
variable {c : Ct} {Ke : KE} {fa : WA}
def wRaise2 (C : Addr) (fa : WA) : WS := fun S k => fa S (fun ps S1 => match ps with
  | [p, q] => optK (shD p) fun d => optK (shD q) fun e => k.ex ⟨C, ["at", "code"], [d, e]⟩ S1
  | _ => False) k.ex
def wRaise1 (C : Addr) (fa : WA) : WS := fun S k => fa S (fun ps S1 => match ps with
  | [p] => optK (shD p) fun d => k.ex ⟨C, ["reason"], [d]⟩ S1
  | _ => False) k.ex
theorem shD_rep {K : PySem.W.Frag} {R B H : Hp} {S : List T} {p : P} {v : V} {d : D} (e : shD p = some d) (r : RepP K R B H S p v) : RepD K B d v := by
  cases p <;> simp only [shD] at e <;> first | (cases e; done) | skip
  · cases e; exact r
  · split at e
    · rename_i hf; cases e; exact flat_any hf r
    · cases e
theorem i_raise2 (T : SLX.Txt X.prog X.K C fI qual (SLX.args2 p1 p2 p3) (SLX.body2 q) ["self", "at", "code"]) (hc : SLX.Calls fI qual ["self", "at", "code"] (.Name "code" (q 0)) (q 1) (q 2) (q 3) (q 4) (q 5)) (n1 : PySem.W.findIn X.K (.ref C) "at" = some none) (n2 : PySem.W.findIn X.K (.ref C) "code" = some none)
    (hcalm : X.calm = true) (tk : Takes X (wxS X.K c Ke)) (hr : Room k X.A) (hg : Gl X x) (hm : X.mg x = some (.ref C)) (ha : PA X (e :: es) (tA X.K c Ke fa)) {pos2 : Pos} (hdb : (x == ("__debug__" : Str)) = false := by decide) (he : starEach (e :: es) X.env = (false, eval e X.env) :: starEach es X.env := by rfl)
    (hpl : (backTo pos (starEach es X.env)).any (·.1) = false := by rfl) : PS X (.Raise (some (.Call (.Name x p) (e :: es) [] pos)) none pos2) (tS X.K c Ke (wRaise2 C fa)) := by
  refine wkS (ps_raise hcalm tk (pmk2 T hc n1 n2 hr hg hm ha hdb he hpl)) ?_
  rintro D σ H ⟨S, B, k, ok, h, rfl, n, bk, ct, rt⟩
  refine ⟨S, B, _, ok, h, fun ps S1 vs B1 H1 h1 ok1 t1 r1 => ?_⟩
  obtain ⟨p, q, rfl, h1⟩ := oa2 h1
  obtain ⟨v1, v2, rfl, rp, rq⟩ := reps2 r1
  obtain ⟨d1, e1, h1⟩ := optK_some h1
  obtain ⟨d2, e2, h1⟩ := optK_some h1
  refine ⟨v1, v2, rfl, fun d hd => ?_⟩
  obtain ⟨ok2, t2⟩ := ok1.share1 (o := .xd [(("code" : Str), v2), (("at" : Str), v1)]) hd
  refine ⟨_, S1, _, h1, ok2, rfl, fun j n e => ?_⟩
  match j, e with
  | 0, e =>
    cases e
    exact ⟨d1, d, _, v1, rfl, rfl, upd_same, rfl, (shD_rep e1 rp).mono t2.sub⟩
  | 1, e =>
    cases e
    exact ⟨d2, d, _, v2, rfl, rfl, upd_same, rfl, (shD_rep e2 rq).mono t2.sub⟩
  | j + 2, e => simp at e
theorem i_raise1 {z : Str} {j : Nat} (T : SLX.Txt X.prog X.K C fI qual (SLX.args1 p1 p2) (SLX.body1 (.str z) j q) ["self", "reason"]) (hc : SLX.Calls fI qual ["self", "reason"] (.Constant (.str z) j (q 0)) (q 1) (q 2) (q 3) (q 4) (q 5)) (n1 : PySem.W.findIn X.K (.ref C) "reason" = some none)
    (hcalm : X.calm = true) (tk : Takes X (wxS X.K c Ke)) (hr : Room k X.A) (hg : Gl X x) (hm : X.mg x = some (.ref C)) (ha : PA X (e :: es) (tA X.K c Ke fa)) {pos2 : Pos} (hdb : (x == ("__debug__" : Str)) = false := by decide) (he : starEach (e :: es) X.env = (false, eval e X.env) :: starEach es X.env := by rfl)
    (hpl : (backTo pos (starEach es X.env)).any (·.1) = false := by rfl) : PS X (.Raise (some (.Call (.Name x p) (e :: es) [] pos)) none pos2) (tS X.K c Ke (wRaise1 C fa)) := by
  refine wkS (ps_raise hcalm tk (pmk1 T hc n1 hr hg hm ha hdb he hpl)) ?_
  rintro D σ H ⟨S, B, k, ok, h, rfl, n, bk, ct, rt⟩
  refine ⟨S, B, _, ok, h, fun ps S1 vs B1 H1 h1 ok1 t1 r1 => ?_⟩
  obtain ⟨p, rfl, h1⟩ := oa1 h1
  obtain ⟨v1, rfl, rp⟩ := reps1 r1
  obtain ⟨d1, e1, h1⟩ := optK_some h1
  refine ⟨v1, rfl, fun d hd => ?_⟩
  obtain ⟨ok2, t2⟩ := ok1.share1 (o := .xd [(("reason" : Str), v1)]) hd
  refine ⟨_, S1, _, h1, ok2, rfl, fun j n e => ?_⟩
  match j, e with
  | 0, e =>
    cases e
    exact ⟨d1, d, _, v1, rfl, rfl, upd_same, rfl, (shD_rep e1 rp).mono t2.sub⟩
  | j + 1, e => simp at e
end
end SL

set_option Elab.async false
set_option linter.all false
set_option maxRecDepth 100000
set_option maxHeartbeats 4000000
/-! SL18: try with clauses, with or without a name. -/
namespace SL
open PySem PySem.Spec PyProof.Rows L2

def unS (i : Nat) (D : Ends) : Ends := { nx := fun σ' H' => D.nx (σ'.set i none) H', rt := D.rt, bk := fun σ' H' => D.bk (σ'.set i none) H', ct := fun σ' H' => D.ct (σ'.set i none) H' }
abbrev Hd := Value × Option Nat × (Addr → Value → Option Addr → TS)
def wG (K : PySem.W.Frag) (Wout : WX) (D : Ends) : List Hd → WX
  | [] => Wout
  | (c, none, ts) :: r => fun cls d σ H => ∃ b, PySem.W.exmOne K cls c = some b ∧ (b = true → ∀ a, H a = none → ts a cls d D σ H) ∧ (b = false → wG K Wout D r cls d σ H)
  | (c, some i, ts) :: r => fun cls d σ H => ∃ b, PySem.W.exmOne K cls c = some b ∧ (b = true → ∀ a, H a = none → ts a cls d (unS i D) (σ.set i (some (.ref a))) H) ∧ (b = false → wG K Wout D r cls d σ H)
inductive HdG (X : Cx) : List ExceptHandler → List Hd → Prop
  | nil : HdG X [] []
  | no {x : Str} {c : Value} {ts : Addr → Value → Option Addr → TS} {b₀ : Stmt} {suite : List Stmt} {np pos' : Pos} {hds : List ExceptHandler} {l : List Hd} (hc : Names X x c)
      (hsu : ∀ (a : Addr) (oe : Obj) (cls : Value) (d : Option Addr) (pn : List (Addr × Obj)), Zc cls d oe → (∃ vs, oe.data = .fields vs) → PSs (X.suite a ((a, oe) :: pn)) (b₀ :: suite) (ts a cls d)) (r : HdG X hds l) :
      HdG X (.ExceptHandler (some (.Name x np)) none (b₀ :: suite) pos' :: hds) ((c, none, ts) :: l)
  | as {x n : Str} {i : Nat} {c : Value} {ts : Addr → Value → Option Addr → TS} {b₀ : Stmt} {suite : List Stmt} {np pos' : Pos} {hds : List ExceptHandler} {l : List Hd} (hN : X.N.Nodup) (hi : X.N[i]? = some n) (hln : X.env.kindOf n = some .local) (hc : Names X x c)
      (hsu : ∀ (a : Addr) (oe : Obj) (cls : Value) (d : Option Addr) (pn : List (Addr × Obj)), Zc cls d oe → (∃ vs, oe.data = .fields vs) → PSs (X.suite a ((a, oe) :: pn)) (b₀ :: suite) (ts a cls d)) (r : HdG X hds l) :
      HdG X (.ExceptHandler (some (.Name x np)) (some n) (b₀ :: suite) pos' :: hds) ((c, some i, ts) :: l)
section
variable {X : Cx} {body : List Stmt} {h₀ : ExceptHandler} {hds : List ExceptHandler} {l : List Hd} {pos : Pos} {tb : WX → TS} {Wout : WX}
theorem ps_try_g (hs : X.stack = X.env :: X.outer) (hf : X.env.frame = some X.env.locals) (tk : Takes X Wout)
    (hb : ∀ (W : WX) (pn : List (Addr × Obj)) (xe : Value → Shared → Prop), Takes (X.tr pn xe) W → PassesOwn (model X.prog X.w) X.A X.env xe → PSs (X.tr pn xe) body (tb W))
    (hh : HdG X (h₀ :: hds) l) : PS X (.Try body (h₀ :: hds) [] [] pos) (fun D σ H => tb (wG X.K Wout D l) D σ H) := by
  refine ⟨fun pins s σ H D I h => ?_⟩
  have ok := I.ok
  have hfr : X.A.frames = some (X.env :: X.outer) := by rw [ok.frames, hs]
  refine wpAny_Try_except ?_
  refine wpAny_mono ((hb (wG X.K Wout D l) (X.pn ++ pins) (fun e s₁ => wpAny (model X.prog X.w) X.A (noteFrame e X.env) (fun _ s₂ => wpAny (model X.prog X.w) X.A (setFlight e none) (fun _ s₃ =>
    wpAny (model X.prog X.w) X.A (handleBy e X.env (h₀ :: hds)) (SP X pins D) X.xe s₃) X.xe s₂) X.xe s₁) (fun u s' xx => ?_) PassesOwn.looking).run [] s σ H D (I.toTry _) h) (fun f s1 hsp => ?_) (fun e s1 he => he)
  · obtain ⟨a, B, sI, pins', σ', H', cls, d, rfl, J', nb, up, sky, na, os, ag, w⟩ := xx
    have J : Inv X pins σ' H' sI := J'.ofTry ok
    have sky' : Sky B (X.env :: X.outer) a (Zc cls d) X.env.locals s'.heap := by rw [← hs]; exact sky
    show wpAny (model X.prog X.w) X.A (noteFrame (.ref a) X.env) _ _ _
    refine Sky.land Zc.steady hfr hf sky' fun h3 fl3 up3 => ?_
    have J3 : Inv X pins σ' H' { s' with heap := h3 } := J.landed nb fl3.1 (up.trans up3) os ag
    obtain ⟨oe3, vs3, he3, hz3, hd3⟩ := fl3.there
    have nfr : a ∉ frs (X.env :: X.outer) := fun hm => by
      obtain ⟨_, o', e', hnf⟩ := fl3.2.2.1.mem hm
      rw [he3] at e'; cases e'
      exact hnf _ hd3
    have nL : a ≠ X.env.locals := fun z => nfr (List.mem_filterMap.mpr ⟨X.env, List.mem_cons_self, by rw [hf, z]⟩)
    have nF : a ∉ X.fs := fun hm => by
      obtain ⟨e, he, q⟩ := List.mem_filterMap.mp hm
      exact nfr (List.mem_filterMap.mpr ⟨e, List.mem_cons_of_mem _ he, q⟩)
    have S3 := J3.suite he3 hd3 na nL nF
    have LT : PySem.W.Looks (model X.prog X.w) h3 (typeOf (.ref a)) cls := fun A Q E s k q => wpAny_typeOf_ref (k _ _ he3) (by rw [hz3.1]; exact q)
    have test : ∀ {x : Str} {c : Value} {np : Pos} {Q : Value → Shared → Prop} {E : Value → Shared → Prop}, Names X x c → Q c { s' with heap := h3 } → wpAny (model X.prog X.w) (X.A.mark (some (.ref a))) (eval (.Name x np) X.env) Q E { s' with heap := h3 } := fun {x c np Q E} hc q => by
      obtain ⟨hg, hdbg, hm | ⟨hm, hv, hnn⟩⟩ := hc
      · exact ld_glob (X := X.suite a ((a, oe3) :: (X.pn ++ pins))) S3 hg hm q hdbg
      · exact ld_blt (X := X.suite a ((a, oe3) :: (X.pn ++ pins))) S3 hg hm hv q hnn hdbg
    have go : ∀ {hds' : List ExceptHandler} {l' : List Hd}, HdG X hds' l' → wG X.K Wout D l' cls d σ' H' → wpAny (model X.prog X.w) X.A (handleBy (.ref a) X.env hds') (SP X pins D) X.xe { s' with heap := h3 } := by
      intro hds' l' hk
      induction hk with
      | nil =>
        intro w
        refine wpAny_handleBy_nil ?_
        obtain ⟨k1, k2, k3, oe, vs, T, oT, ts', he, hz, hd, h1, hr⟩ := id fl3
        unfold PySem.passOn
        refine wpAny_bind (wpAny_field he hd h1 ?_)
        rw [if_neg (show ¬ ((Value.ref T == Value.none) = true) from by simp)]
        have fin : wpAny (model X.prog X.w) X.A (setFlight (.ref a) X.env.frame) (fun _ s4 => wpAny (model X.prog X.w) X.A (throw (.ref a) : Sem Flow) (SP X pins D) X.xe s4) X.xe { s' with heap := h3 } := by
          rw [hf]
          refine HandSPX.setFlight_upZ fl3 fun h4 hh4 up4 => wpAny_throw (tk _ _ ?_)
          exact ⟨a, B, sI, pins, σ', H', cls, d, rfl, J, nb, (up.trans up3).trans up4, .inr (.inr (by rw [hs]; exact hh4)), na, os, ag, w⟩
        first
          | exact wpAny_bind (wpAny_pure (wpAny_bind fin))
          | exact wpAny_bind fin
      | @no x c ts b₀ suite np pos' hds2 l2 hc hsu r ih =>
        intro w
        obtain ⟨b, hb1, hyes, hno⟩ := w
        refine wpAny_handleBy_cons (codeAny_handlers_test ?_) (by intro q; cases q)
        refine test hc ((PySem.W.exm_one (M := model X.prog X.w) (J3.kIn) LT hb1).here ?_)
        cases b with
        | true =>
          refine codeAny_handlers_suite ?_
          refine HandSPX.lands_againZ fl3 fun h4 fl4 up4 => ?_
          have J4 : Inv X pins σ' H' { s' with heap := h4 } := J.landed nb fl4.1 ((up.trans up3).trans up4) os ag
          obtain ⟨oe4, vs4, he4, hz4, hd4⟩ := fl4.there
          have S4 := J4.suite he4 hd4 na nL nF
          refine wpAny_mono ((hsu a oe4 cls d (X.pn ++ pins) hz4 ⟨_, hd4⟩).run [] _ _ H' _ S4 (hyes rfl a na)) (fun f s6 hsp => ?_) (fun _ _ z => False.elim z)
          cases f with
          | next =>
            obtain ⟨σ6, H6, S6, q6⟩ := hsp
            exact ⟨_, _, S6.unsuite ok, q6⟩
          | brk =>
            obtain ⟨σ6, H6, S6, q6⟩ := hsp
            exact ⟨_, _, S6.unsuite ok, q6⟩
          | cont =>
            obtain ⟨σ6, H6, S6, q6⟩ := hsp
            exact ⟨_, _, S6.unsuite ok, q6⟩
          | ret u =>
            obtain ⟨v6, σ6, H6, S6, r6, q6⟩ := hsp
            exact ⟨_, _, _, S6.unsuite ok, r6, q6⟩
        | false =>
          show wpAny _ X.A (handleBy (.ref a) X.env hds2) _ _ _
          exact ih (hno rfl)
      | @as x n i c ts b₀ suite np pos' hds2 l2 hN hi hln hc hsu r ih =>
        intro w
        obtain ⟨b, hb1, hyes, hno⟩ := w
        refine wpAny_handleBy_cons (codeAny_handlers_test ?_) (by intro q; cases q)
        refine test hc ((PySem.W.exm_one (M := model X.prog X.w) (J3.kIn) LT hb1).here ?_)
        cases b with
        | true =>
          refine codeAny_handlers_suite_as ?_
          refine HandSPX.lands_againZ fl3 fun h4 fl4 up4 => ?_
          have J4 : Inv X pins σ' H' { s' with heap := h4 } := J.landed nb fl4.1 ((up.trans up3).trans up4) os ag
          obtain ⟨oe4, vs4, he4, hz4, hd4⟩ := fl4.there
          have S4 := J4.suite he4 hd4 na nL nF
          refine store_ok (X := X.suite a ((a, oe4) :: (X.pn ++ pins))) (v := .ref a) S4 hN hi (.inl hln) rfl (fun s5 S5 => ?_) (.inr hln)
          refine wpAny_mono ((hsu a oe4 cls d (X.pn ++ pins) hz4 ⟨_, hd4⟩).run [] s5 _ H' _ S5 (hyes rfl a na)) (fun f s6 hsp => ?_) (fun _ _ z => False.elim z)
          have end_ : ∀ {σ6 : L2.St} {H6 : Hp} {Q : Shared → Prop}, Inv (X.suite a ((a, oe4) :: (X.pn ++ pins))) [] σ6 H6 s6 → (∀ s7, Inv X pins (σ6.set i none) H6 s7 → Q s7) →
              wpAny (model X.prog X.w) X.A (do bindName X.env n .none; unbindBehindTheSuite X.env n pos') (fun _ s7 => Q s7) X.xe s6 := fun {σ6 H6 Q} S6 hq => gone_ok (S6.unsuite ok) hN hi hln hq
          cases f with
          | next =>
            obtain ⟨σ6, H6, S6, q6⟩ := hsp
            exact end_ S6 fun s7 J7 => ⟨_, _, J7, q6⟩
          | brk =>
            obtain ⟨σ6, H6, S6, q6⟩ := hsp
            exact end_ S6 fun s7 J7 => ⟨_, _, J7, q6⟩
          | cont =>
            obtain ⟨σ6, H6, S6, q6⟩ := hsp
            exact end_ S6 fun s7 J7 => ⟨_, _, J7, q6⟩
          | ret u =>
            obtain ⟨v6, σ6, H6, S6, r6, q6⟩ := hsp
            exact end_ S6 fun s7 J7 => ⟨_, _, _, J7, r6, q6⟩
        | false =>
          show wpAny _ X.A (handleBy (.ref a) X.env hds2) _ _ _
          exact ih (hno rfl)
    exact go hh w
  · cases f with
    | next =>
      obtain ⟨σ', H', J', q⟩ := hsp
      exact wpAny_execs_nil ⟨σ', H', J'.ofTry ok, q⟩
    | brk =>
      obtain ⟨σ', H', J', q⟩ := hsp
      exact ⟨σ', H', J'.ofTry ok, q⟩
    | cont =>
      obtain ⟨σ', H', J', q⟩ := hsp
      exact ⟨σ', H', J'.ofTry ok, q⟩
    | ret u =>
      obtain ⟨v, σ', H', J', r, q⟩ := hsp
      exact ⟨v, σ', H', J'.ofTry ok, r, q⟩
end

/-! ### readings -/
/-- a clause: its class, the name's slot, the suite by the exception and its address -/
abbrev Cl := Addr × Option Nat × (Ev → Addr → WS)
def slotE (o : Option Nat) (a : Addr) (S : List T) : List T := match o with
  | some i => S.set i (.sh (.obj a))
  | none => S
def unK (o : Option Nat) (k : KS) : KS := match o with
  | some i => { k with nx := fun S => k.nx (S.set i .un), bk := fun S => k.bk (S.set i .un), ct := fun S => k.ct (S.set i .un) }
  | none => k
def hdl (K : PySem.W.Frag) (k : KS) : List Cl → Ev → List T → Prop
  | [], ev, S => k.ex ev S
  | (C, o, w) :: r, ev, S => ∃ b, PySem.W.exmOne K (.ref ev.cls) (.ref C) = some b ∧ if b = true then ∀ a, w ev a (slotE o a S) { unK o k with ex := noEx } else hdl K k r ev S
def wTry (K : PySem.W.Frag) (wb : WS) (cl : List Cl) : WS := fun S k => wb S { k with ex := hdl K k cl }
theorem Rep.gone {K : PySem.W.Frag} {R B H : Hp} {S : List T} {σ : L2.St} (r : Rep K R B H S σ) (i : Nat) : Rep K R B H (S.set i .un) (σ.set i none) ∧ ∀ a ∈ feet (S.set i .un), a ∈ feet S := by
  obtain ⟨h1, h2⟩ := r.forget i
  refine ⟨⟨h1.bh, h1.rh, h1.nd, h1.bf, h1.rf, by rw [List.length_set, List.length_set]; exact r.len, fun j t e => ?_⟩, h2⟩
  by_cases hj : i = j
  · subst hj
    by_cases hl : i < S.length
    · rw [List.getElem?_set_self hl] at e
      exact .inl (Option.some.inj e).symm
    · rw [List.getElem?_eq_none_iff.mpr (by rw [List.length_set]; omega)] at e
      cases e
  · rw [List.getElem?_set_ne hj] at e
    rw [List.getElem?_set_ne hj]
    exact r.sl j t e
/-- the frame's start laid anew -/
theorem Ok.base {K : PySem.W.Frag} {c : Ct} {B H B' H' : Hp} {S S' : List T} {σ σ' : L2.St} (ok : Ok K c B H S σ) (ok' : Ok K ⟨c.R, B, H, feet S⟩ B' H' S' σ') : Ok K c B' H' S' σ' := ⟨ok'.rep, ok.tr.trans ok'.tr⟩
inductive HdS (X : Cx) : List ExceptHandler → List Cl → Prop
  | nil : HdS X [] []
  | no {x : Str} {C : Addr} {w : Ev → Addr → WS} {b₀ : Stmt} {suite : List Stmt} {np pos' : Pos} {hds : List ExceptHandler} {l : List Cl} (hc : Names X x (.ref C))
      (hsu : ∀ (a : Addr) (oe : Obj) (cls : Value) (d : Option Addr) (pn : List (Addr × Obj)) (ev : Ev) (c : Ct), Zc cls d oe → (∃ vs, oe.data = .fields vs) → EvOk X.K c.B0 ev cls d → PSs (X.suite a ((a, oe) :: pn)) (b₀ :: suite) (tS X.K c noEx (w ev a))) (r : HdS X hds l) :
      HdS X (.ExceptHandler (some (.Name x np)) none (b₀ :: suite) pos' :: hds) ((C, none, w) :: l)
  | as {x n : Str} {i : Nat} {C : Addr} {w : Ev → Addr → WS} {b₀ : Stmt} {suite : List Stmt} {np pos' : Pos} {hds : List ExceptHandler} {l : List Cl} (hN : X.N.Nodup) (hi : X.N[i]? = some n) (hln : X.env.kindOf n = some .local) (hc : Names X x (.ref C))
      (hsu : ∀ (a : Addr) (oe : Obj) (cls : Value) (d : Option Addr) (pn : List (Addr × Obj)) (ev : Ev) (c : Ct), Zc cls d oe → (∃ vs, oe.data = .fields vs) → EvOk X.K c.B0 ev cls d → PSs (X.suite a ((a, oe) :: pn)) (b₀ :: suite) (tS X.K c noEx (w ev a))) (r : HdS X hds l) :
      HdS X (.ExceptHandler (some (.Name x np)) (some n) (b₀ :: suite) pos' :: hds) ((C, some i, w) :: l)
def tsE (K : PySem.W.Frag) (w : Ev → Addr → WS) : Addr → Value → Option Addr → TS := fun a cls d D σ H => ∃ ev c, EvOk K c.B0 ev cls d ∧ tS K c noEx (w ev a) D σ H
def hdT (K : PySem.W.Frag) (l : List Cl) : List Hd := l.map fun x => (.ref x.1, x.2.1, tsE K x.2.2)
theorem hd_of {X : Cx} {hds : List ExceptHandler} {l : List Cl} (h : HdS X hds l) : HdG X hds (hdT X.K l) := by
  have ex : ∀ {X' : Cx} {sts : List Stmt} {w : Ev → Addr → WS} {a : Addr} {cls : Value} {d : Option Addr}, X'.K = X.K → (∀ ev c, EvOk X.K c.B0 ev cls d → PSs X' sts (tS X.K c noEx (w ev a))) → PSs X' sts (tsE X.K w a cls d) := fun _ h =>
    ⟨fun pins s σ H D I ⟨ev, c, he, q⟩ => (h ev c he).run pins s σ H D I q⟩
  induction h with
  | nil => exact .nil
  | no hc hsu r ih => exact .no hc (fun a oe cls d pn hz hf => ex rfl fun ev c he => hsu a oe cls d pn ev c hz hf he) ih
  | as hN hi hln hc hsu r ih => exact .as hN hi hln hc (fun a oe cls d pn hz hf => ex rfl fun ev c he => hsu a oe cls d pn ev c hz hf he) ih
section
variable {X : Cx} {c : Ct} {Ke : KE} {body : List Stmt} {h₀ : ExceptHandler} {hds : List ExceptHandler} {cl : List Cl} {pos : Pos} {wb : WS}
theorem i_try (hs : X.stack = X.env :: X.outer) (hf : X.env.frame = some X.env.locals) (tk : Takes X (wxS X.K c Ke))
    (hb : ∀ (pn : List (Addr × Obj)) (xe : Value → Shared → Prop) (c : Ct) (Ke : KE), Takes (X.tr pn xe) (wxS X.K c Ke) → PassesOwn (model X.prog X.w) X.A X.env xe → PSs (X.tr pn xe) body (tS X.K c Ke wb))
    (hh : HdS X (h₀ :: hds) cl) : PS X (.Try body (h₀ :: hds) [] [] pos) (tS X.K c Ke (wTry X.K wb cl)) := by
  refine wkS (ps_try_g (tb := fun W D σ H => ∃ c1 Ke1, (∀ cls d σ' H', wxS X.K c1 Ke1 cls d σ' H' → W cls d σ' H') ∧ tS X.K c1 Ke1 wb D σ H) hs hf tk (fun W pn xe tk1 po => ⟨fun pins s σ H D I ⟨c1, Ke1, imp, q⟩ => (hb pn xe c1 Ke1 (tk1.imp imp) po).run pins s σ H D I q⟩) (hd_of hh)) ?_
  rintro D σ H ⟨S, B, k, ok, h, rfl, n, bk, ct, rt⟩
  refine ⟨⟨c.R, B, H, feet S⟩, hdl X.K k cl, ?_, S, B, _, ⟨ok.rep, Tr.refl _ _ _⟩, h, rfl, fun S' σ' B' H' hk ok' sb => n S' σ' B' H' hk (ok.base ok') sb, fun S' σ' B' H' hk ok' sb => bk S' σ' B' H' hk (ok.base ok') sb, fun S' σ' B' H' hk ok' sb => ct S' σ' B' H' hk (ok.base ok') sb,
    fun p S' v σ' B' H' hk ok' tr r => rt p S' v σ' B' H' hk (ok.base ok') (ok.tr.trans tr) r⟩
  rintro cls d σ' H' ⟨ev, S', B', hk, ok', he⟩
  have okc := ok.base ok'
  have sb : Sub B B' := ok'.tr.sub
  clear hh h
  have key : ∀ (D' : Ends) (k' : KS) (w : Ev → Addr → WS) (a : Addr) (S1 : List T) (σ1 : L2.St), Ok X.K c B' H' S1 σ1 → w ev a S1 { k' with ex := noEx } → (∀ S' σ' B1 H', k'.nx S' → Ok X.K c B1 H' S' σ' → Sub B B1 → D'.nx σ' H') → (∀ S' σ' B1 H', k'.bk S' → Ok X.K c B1 H' S' σ' → Sub B B1 → D'.bk σ' H') → (∀ S' σ' B1 H', k'.ct S' → Ok X.K c B1 H' S' σ' → Sub B B1 → D'.ct σ' H') →
      (∀ p S' v σ' B1 H', k'.rt p S' → Ok X.K c B1 H' S' σ' → Tr c.B0 c.H0 c.F0 B1 H' (feet S' ++ footP p) → RepP X.K c.R B1 H' S' p v → D'.rt v H') → tsE X.K w a cls d D' σ1 H' := fun D' k' w a S1 σ1 ok1 hw n bk ct rt =>
    ⟨ev, ⟨c.R, B', H', feet S1⟩, he, S1, B', _, ⟨ok1.rep, Tr.refl _ _ _⟩, hw, rfl, fun S' σ' B1 H1 hk o s => n S' σ' B1 H1 hk (ok1.base o) (sb.trans s), fun S' σ' B1 H1 hk o s => bk S' σ' B1 H1 hk (ok1.base o) (sb.trans s), fun S' σ' B1 H1 hk o s => ct S' σ' B1 H1 hk (ok1.base o) (sb.trans s),
      fun p S' v σ' B1 H1 hk o tr r => rt p S' v σ' B1 H1 hk (ok1.base o) (ok1.tr.trans tr) r⟩
  have hcls := he.1
  induction cl with
  | nil => exact ⟨ev, S', B', hk, okc, he⟩
  | cons x cl ih =>
    obtain ⟨C, o, w⟩ := x
    obtain ⟨b, hb1, hk⟩ := hk
    cases o with
    | none =>
      refine ⟨b, by rw [hcls]; exact hb1, fun eb a ha => ?_, fun eb => ?_⟩
      · rw [if_pos eb] at hk
        exact key D k w a S' σ' okc (hk a) n bk ct rt
      · rw [if_neg (by rw [eb]; exact Bool.false_ne_true)] at hk
        exact ih hk
    | some i =>
      refine ⟨b, by rw [hcls]; exact hb1, fun eb a ha => ?_, fun eb => ?_⟩
      · rw [if_pos eb] at hk
        obtain ⟨r1, r2⟩ := okc.rep.setSlot (i := i) (t := .sh (.obj a)) (v := .ref a) (.inr (by unfold RepT RepD; rfl)) (by simp [foot]) (fun b hb => by simp [foot] at hb)
        have ok2 : Ok X.K c B' H' (S'.set i (.sh (.obj a))) (σ'.set i (some (.ref a))) := ⟨r1, okc.tr.perm fun b hb => (r2 b hb).elim id fun z => by simp [foot] at z⟩
        have un : ∀ {S1 : List T} {σ1 : L2.St} {B1 H1 : Hp}, Ok X.K c B1 H1 S1 σ1 → Ok X.K c B1 H1 (S1.set i .un) (σ1.set i none) := fun o => ⟨(o.rep.gone i).1, o.tr.perm (o.rep.gone i).2⟩
        exact key (unS i D) (unK (some i) k) w a _ _ ok2 (hk a) (fun S1 σ1 B1 H1 hk o s => n _ _ B1 H1 hk (un o) s) (fun S1 σ1 B1 H1 hk o s => bk _ _ B1 H1 hk (un o) s) (fun S1 σ1 B1 H1 hk o s => ct _ _ B1 H1 hk (un o) s) rt
      · rw [if_neg (by rw [eb]; exact Bool.false_ne_true)] at hk
        exact ih hk

/-! ### e.f in a suite -/
variable {a : Addr} {oe : Obj} {cls : Value} {d : Option Addr} {pn : List (Addr × Obj)} {e : Expr} {f : WE} {ev : Ev} {n : Str}
def wXf (ev : Ev) (a : Addr) (Cs : List Addr) (n : Str) (f : WE) : WE := fun S Kp Ke => f S (fun p S1 => pk S1 p = .obj a ∧ ev.cls ∈ Cs ∧ optK (fpos n ev.ns) fun j => optK ev.xs[j]? fun x => Kp (.sh x) S1) Ke
theorem fpos_at {n : Str} : ∀ {ns : List Str} {j : Nat}, fpos n ns = some j → ns[j]? = some n
  | [], _, h => by simp [fpos] at h
  | g :: ns, j, h => by
    simp only [fpos] at h
    by_cases q : n = g
    · rw [if_pos q] at h; cases h; subst q; rfl
    · rw [if_neg q] at h
      cases z : fpos n ns with
      | none => rw [z] at h; cases h
      | some k => rw [z] at h; have hj : k + 1 = j := Option.some.inj h; subst hj; simpa using fpos_at z
theorem i_xf {Cs : List Addr} (hC : ∀ C ∈ Cs, XfC X.K C ∧ PySem.W.findIn X.K (.ref C) n = some none) (hz : Zc cls d oe) (hf : ∃ vs, oe.data = .fields vs) (hev : EvOk X.K c.B0 ev cls d) (he : PE (X.suite a ((a, oe) :: pn)) e (tE X.K c Ke f)) (hb : attributeBase e n X.env (eval e X.env) = eval e X.env := by rfl) :
    PE (X.suite a ((a, oe) :: pn)) (.Attribute e n pos) (tE X.K c Ke (wXf ev a Cs n f)) := by
  refine ⟨fun pins s σ H Q I h => ?_⟩
  by_cases hm : ev.cls ∈ Cs
  · obtain ⟨T, hno⟩ := hC _ hm
    refine (pe_xf T hno hz hf he hb).run pins s σ H Q I ?_
    obtain ⟨S, B, Kp, ok, hf', post⟩ := h
    refine ⟨S, B, _, ok, hf', fun p S1 v B1 H1 h1 ok1 t1 r1 => ?_⟩
    obtain ⟨ep, _, h1⟩ := h1
    obtain ⟨j, ej, h1⟩ := optK_some h1
    obtain ⟨x, ex, h1⟩ := optK_some h1
    obtain ⟨x', dd, fs, v', q1, q2, q3, q4, q5⟩ := hev.2 j n (fpos_at ej)
    rw [ex] at q1
    cases q1
    have rv := ok1.rep.pk r1
    rw [ep] at rv
    unfold RepD at rv
    have sb : Sub c.B0 B1 := ok1.tr.sub
    exact ⟨rv, hev.1, dd, fs, v', q2, ok1.rep.bh _ _ (sb _ _ q3), q4, (post_after t1.nil post).here ok1 h1 (p := .sh x) (q5.mono sb) fun a ha => by simp [footP] at ha⟩
  · refine attr_of hb (thn (he.run pins s σ H (fun _ _ => False) I ?_) fun u s1 ⟨_, _, _, _, z⟩ => z.elim)
    obtain ⟨S, B, Kp, ok, hf', post⟩ := h
    exact ⟨S, B, _, ok, hf', fun p S1 v B1 H1 h1 ok1 t1 r1 => hm h1.2.1⟩
end
end SL

set_option Elab.async false
set_option linter.all false
set_option maxRecDepth 100000
set_option maxHeartbeats 4000000
/-! SL19: exceptions as values; isinstance. -/
namespace SL
open PySem PySem.Spec PyProof.Rows L2

/-- C(e, ..) as a value -/
theorem mk_val {X : Cx} {pins : List (Addr × Obj)} {σ : L2.St} {H1 : Hp} {s1 : Shared} {C fI : Addr} {qual : Str} {as : List Arg} {body : List Stmt} {ns : List Str} {us : List Value} {fs : List (Str × V)} {mA : Str → Option Value} {Q : VK} {k : Nat} (T : SLX.Txt X.prog X.K C fI qual as body ns) (hr : Room k X.A) (hus : us.length ≤ sizeLine)
    (I1 : Inv X pins σ H1 s1) (rel : ∀ f, RelO (fs.lookup f) (mA f))
    (init : ∀ (A : Around) (R : Result → Shared → Prop) (s : Shared) (x t0 : Addr) (mg mb : Str → Option Value), X.K.In s.heap → s.heap.NoLimit → s.heap.Ns mainGlobals mg → s.heap.Ns builtinsNs mb → mb "super" = some (.type "super") → s.heap.get? x = some (PySem.HandSPX.excO C t0) → X.K.lookup x = none → A.depth < recursionLimit →
      (∀ h' tk dx, SLX.Left s.heap h' x C dx mA → R (.ok (.ret .none)) { s with heap := h', toks := tk }) → codeAny (model X.prog X.w) A (.call (.ref fI) ⟨.ref x :: us, []⟩) R s)
    (q1 : ∀ d e, H1 d = none → H1 e = none → e ≠ d → Q (.ref e) (upd (upd H1 d (.xd fs)) e (exo e C (some d)))) : wpAny (model X.prog X.w) X.A (call (.ref C) us) (EP X pins σ Q) X.xe s1 := by
  have hlim := I1.nolimit
  have G : s1.heap.Ns mainGlobals X.mg := I1.ok.mod.glob.keeps fun b o e => (I1.bs b o e).1
  obtain ⟨mb, hb, hbb⟩ := I1.ok.mod.blt
  have Bn : s1.heap.Ns builtinsNs mb := hb.keeps fun b o e => (I1.bs b o e).1
  have hmb : mb "super" = some (.type "super") := (hbb "super" (by decide)).trans (by decide +kernel)
  obtain ⟨hp, g, dr, tk, os⟩ := s1
  refine wpAny_call (SLX.made_of (mg := X.mg) (mb := mb) T hus I1.kIn hlim G Bn (by have := hr.dp; omega) (fun A R s x t0 z1 z2 z3 z4 z5 z6 z7 z8 => init A R s x t0 _ _ z1 z2 z3 z4 hmb z5 z6 z7 z8) fun h' tk' e d M => ?_)
  show EP X pins σ Q (.ref e) ⟨h', g, dr, tk', os⟩
  obtain ⟨t1, hoe⟩ := M.obj
  have hns := M.ns
  obtain ⟨G', g1, g2⟩ := restrict h' fun b => decide (b ≠ e)
  have gk : ∀ b, b ≠ e → G'.get? b = h'.get? b := fun b hb => g1 b (decide_eq_true hb)
  have ge : G'.get? e = none := g2 e (by simp)
  have old : ∀ b o, hp.get? b = some o → G'.get? b = some o := fun b o q => (gk b (Nat.ne_of_lt (Nat.lt_of_lt_of_le (Heap.lt_size q) M.new))).trans (M.keep b o q)
  have ob : ObjOk X.prog X.w (upd H1 d (.xd fs)) G' d (.xd fs) := ⟨mA, hns.at (fun o q => (gk d M.dne).trans q), rel⟩
  have J : Inv X pins σ (upd H1 d (.xd fs)) ⟨G', g, dr, tk', os⟩ := I1.laid (t' := tk') old M.dbig ob
  have back : ∀ b o, G'.get? b = some o → h'.get? b = some o := fun b o q => by
    by_cases hb : b = e
    · rw [hb, ge] at q; cases q
    · exact (gk b hb).symm.trans q
  have he : H1 e = none := I1.hok.fresh M.new
  have hn : upd H1 d (.xd fs) e = none := by rw [upd_ne (Ne.symm M.dne)]; exact he
  exact ⟨.ref e, _, J.laidN (t' := tk') back ge hn (exo_ok hoe), rfl, q1 d e (I1.hok.fresh M.dbig) he (Ne.symm M.dne)⟩
def tVal2 (C : Addr) (ta : TA) : TE := fun σ H Q => ta σ H fun vs H1 => ∃ v1 v2, vs = [v1, v2] ∧ ∀ d e, H1 d = none → H1 e = none → e ≠ d → Q (.ref e) (upd (upd H1 d (.xd [(("code" : Str), v2), (("at" : Str), v1)])) e (exo e C (some d)))
def tVal1 (C : Addr) (ta : TA) : TE := fun σ H Q => ta σ H fun vs H1 => ∃ v1, vs = [v1] ∧ ∀ d e, H1 d = none → H1 e = none → e ≠ d → Q (.ref e) (upd (upd H1 d (.xd [(("reason" : Str), v1)])) e (exo e C (some d)))
def wVal2 (C : Addr) (fa : WA) : WE := fun S Kp Ke => fa S (fun ps S1 => match ps with
  | [p, q] => optK (shD p) fun d => optK (shD q) fun e => Kp (.sh (.exc C ["code", "at"] [e, d])) S1
  | _ => False) Ke
def wVal1 (C : Addr) (fa : WA) : WE := fun S Kp Ke => fa S (fun ps S1 => match ps with
  | [p] => optK (shD p) fun d => Kp (.sh (.exc C ["reason"] [d])) S1
  | _ => False) Ke
def wVal0 (C : Addr) : WE := fun S Kp _ => Kp (.sh (.exc C [] [])) S
section
variable {X : Cx} {C fI : Addr} {qual x : Str} {q : Nat → Pos} {p1 p2 p3 p pos : Pos} {e : Expr} {es : List Expr} {ta : TA} {k : Nat} {c : Ct} {Ke : KE} {fa : WA}
theorem pe_val2 (T : SLX.Txt X.prog X.K C fI qual (SLX.args2 p1 p2 p3) (SLX.body2 q) ["self", "at", "code"]) (hc : SLX.Calls fI qual ["self", "at", "code"] (.Name "code" (q 0)) (q 1) (q 2) (q 3) (q 4) (q 5)) (n1 : PySem.W.findIn X.K (.ref C) "at" = some none) (n2 : PySem.W.findIn X.K (.ref C) "code" = some none)
    (hr : Room k X.A) (hg : Gl X x) (hm : X.mg x = some (.ref C)) (ha : PA X (e :: es) ta) (hdb : (x == ("__debug__" : Str)) = false := by decide) (he : starEach (e :: es) X.env = (false, eval e X.env) :: starEach es X.env := by rfl) (hpl : (backTo pos (starEach es X.env)).any (·.1) = false := by rfl) :
    PE X (.Call (.Name x p) (e :: es) [] pos) (tVal2 C ta) := by
  refine ⟨fun pins s σ H Q I h => ?_⟩
  refine wpAny_Call_Name_kw (ld_glob I hg hm ?_ hdb)
  refine PySem.W.callWith_K (h₀ := X.base) I.ok.mod.kin T.kC (thn (ha.run pos pins s σ H _ I h) fun us s1 ⟨vs, H1, I1, r, v1, v2, ev, q1⟩ => ⟨I1.kIn, ?_⟩) he hpl
  subst ev
  obtain ⟨u1, u2, rfl, r1, r2⟩ := r.two
  refine mk_val (mA := SLX.maps2 u1 u2) T hr (by rw [sizeLine_eq]; exact (by decide : 2 ≤ 16777216)) I1 (fun f => relO_put0 r2 (fun g => relO_put0 r1 relO_none g) f) (fun A R s x t0 mg mb z1 z2 z3 z4 z5 z6 z7 z8 z9 => ?_) q1
  exact SLX.init2 T hc n1 n2 z1 z2 z3 z4 z5 z6 z7 z8 z9
theorem pe_val1 {z : Str} {j : Nat} (T : SLX.Txt X.prog X.K C fI qual (SLX.args1 p1 p2) (SLX.body1 (.str z) j q) ["self", "reason"]) (hc : SLX.Calls fI qual ["self", "reason"] (.Constant (.str z) j (q 0)) (q 1) (q 2) (q 3) (q 4) (q 5)) (n1 : PySem.W.findIn X.K (.ref C) "reason" = some none)
    (hr : Room k X.A) (hg : Gl X x) (hm : X.mg x = some (.ref C)) (ha : PA X (e :: es) ta) (hdb : (x == ("__debug__" : Str)) = false := by decide) (he : starEach (e :: es) X.env = (false, eval e X.env) :: starEach es X.env := by rfl) (hpl : (backTo pos (starEach es X.env)).any (·.1) = false := by rfl) :
    PE X (.Call (.Name x p) (e :: es) [] pos) (tVal1 C ta) := by
  refine ⟨fun pins s σ H Q I h => ?_⟩
  refine wpAny_Call_Name_kw (ld_glob I hg hm ?_ hdb)
  refine PySem.W.callWith_K (h₀ := X.base) I.ok.mod.kin T.kC (thn (ha.run pos pins s σ H _ I h) fun us s1 ⟨vs, H1, I1, r, v1, ev, q1⟩ => ⟨I1.kIn, ?_⟩) he hpl
  subst ev
  obtain ⟨u1, rfl, r1⟩ := r.one
  refine mk_val (mA := SLX.maps1 u1) T hr (by rw [sizeLine_eq]; exact (by decide : 1 ≤ 16777216)) I1 (fun f => relO_put0 r1 relO_none f) (fun A R s x t0 mg mb z1 z2 z3 z4 z5 z6 z7 z8 z9 => ?_) q1
  exact SLX.init1 T hc n1 z1 z2 z3 z4 z5 z6 z7 z8 z9
/-- C(), without own __init__ -/
theorem pe_val0 {bmB : List Value} {Bn newId initId : String} (F : ExcBaseFacts Bn newId initId bmB) (q : PySem.W.excIn X.K C bmB newId = true) (gC : X.mg x = some (.ref C)) (kC : PySem.W.keepIn X.K (.ref C) = true) (hg : Gl X x) (hdb : (x == ("__debug__" : Str)) = false := by decide) :
    PE X (.Call (.Name x p) [] [] pos) (fun σ H Q => ∀ a, H a = none → Q (.ref a) (upd H a (exo a C none))) := by
  refine ⟨fun pins s σ H Q I h => ?_⟩
  refine wpAny_Call_Name_kw (ld_glob I hg gC ?_ hdb)
  refine PySem.W.callWith_K0 I.kIn kC ?_
  obtain ⟨bm, N, nm, qn, bs, hdct, sn, sub, ab, col, dd, k0, k1, k2, k3, k5, mN, hC, hN, hni, T⟩ := exc_obj I.kIn q
  refine wpAny_call_exc_subT F T hC hN hni (fun h' a hm => ?_) (by show 0 ≤ sizeLine; omega)
  have hn : H a = none := I.hok.gone hm.new
  obtain ⟨t, ht, _, _⟩ := hm.there
  exact ⟨.ref a, upd H a (exo a C none), I.laidN hm.keeps hm.new hn (exo_ok ht), rfl, h a hn⟩
theorem i_val2 (T : SLX.Txt X.prog X.K C fI qual (SLX.args2 p1 p2 p3) (SLX.body2 q) ["self", "at", "code"]) (hc : SLX.Calls fI qual ["self", "at", "code"] (.Name "code" (q 0)) (q 1) (q 2) (q 3) (q 4) (q 5)) (n1 : PySem.W.findIn X.K (.ref C) "at" = some none) (n2 : PySem.W.findIn X.K (.ref C) "code" = some none)
    (hr : Room k X.A) (hg : Gl X x) (hm : X.mg x = some (.ref C)) (ha : PA X (e :: es) (tA X.K c Ke fa)) (hdb : (x == ("__debug__" : Str)) = false := by decide) (he : starEach (e :: es) X.env = (false, eval e X.env) :: starEach es X.env := by rfl) (hpl : (backTo pos (starEach es X.env)).any (·.1) = false := by rfl) :
    PE X (.Call (.Name x p) (e :: es) [] pos) (tE X.K c Ke (wVal2 C fa)) := by
  refine wkE (pe_val2 T hc n1 n2 hr hg hm ha hdb he hpl) ?_
  rintro σ H Q ⟨S, B, Kp, ok, hf, post⟩
  refine ⟨S, B, _, ok, hf, fun ps S1 vs B1 H1 h1 ok1 t1 r1 => ?_⟩
  obtain ⟨p, q, rfl, h1⟩ := oa2 h1
  obtain ⟨v1, v2, rfl, rp, rq⟩ := reps2 r1
  obtain ⟨d1, e1, h1⟩ := optK_some h1
  obtain ⟨d2, e2, h1⟩ := optK_some h1
  refine ⟨v1, v2, rfl, fun d a hd ha' hne => ?_⟩
  obtain ⟨ok2, t2⟩ := ok1.share1 (o := .xd [(("code" : Str), v2), (("at" : Str), v1)]) hd
  obtain ⟨ok3, t3⟩ := ok2.share1 (a := a) (o := exo a C (some d)) (by rw [upd_ne hne]; exact ha')
  have t23 := t2.trans t3
  refine (post_after (F := []) (t1.left.nil'.trans (t23.wide (G := []))) post).here ok3 h1 (p := .sh (.exc C ["code", "at"] [d2, d1])) ?_ fun a ha => by simp [footP] at ha
  unfold RepP RepD RepDs
  refine ⟨a, some d, [v2, v1], rfl, upd_same, rfl, .inr ⟨d, rfl, by rw [upd_ne (Ne.symm hne)]; exact upd_same⟩, v2, [v1], rfl, (shD_rep e2 rq).mono t23.sub, ?_⟩
  unfold RepDs
  exact ⟨v1, [], rfl, (shD_rep e1 rp).mono t23.sub, by unfold RepDs; rfl⟩
theorem i_val1 {z : Str} {j : Nat} (T : SLX.Txt X.prog X.K C fI qual (SLX.args1 p1 p2) (SLX.body1 (.str z) j q) ["self", "reason"]) (hc : SLX.Calls fI qual ["self", "reason"] (.Constant (.str z) j (q 0)) (q 1) (q 2) (q 3) (q 4) (q 5)) (n1 : PySem.W.findIn X.K (.ref C) "reason" = some none)
    (hr : Room k X.A) (hg : Gl X x) (hm : X.mg x = some (.ref C)) (ha : PA X (e :: es) (tA X.K c Ke fa)) (hdb : (x == ("__debug__" : Str)) = false := by decide) (he : starEach (e :: es) X.env = (false, eval e X.env) :: starEach es X.env := by rfl) (hpl : (backTo pos (starEach es X.env)).any (·.1) = false := by rfl) :
    PE X (.Call (.Name x p) (e :: es) [] pos) (tE X.K c Ke (wVal1 C fa)) := by
  refine wkE (pe_val1 T hc n1 hr hg hm ha hdb he hpl) ?_
  rintro σ H Q ⟨S, B, Kp, ok, hf, post⟩
  refine ⟨S, B, _, ok, hf, fun ps S1 vs B1 H1 h1 ok1 t1 r1 => ?_⟩
  obtain ⟨p, rfl, h1⟩ := oa1 h1
  obtain ⟨v1, rfl, rp⟩ := reps1 r1
  obtain ⟨d1, e1, h1⟩ := optK_some h1
  refine ⟨v1, rfl, fun d a hd ha' hne => ?_⟩
  obtain ⟨ok2, t2⟩ := ok1.share1 (o := .xd [(("reason" : Str), v1)]) hd
  obtain ⟨ok3, t3⟩ := ok2.share1 (a := a) (o := exo a C (some d)) (by rw [upd_ne hne]; exact ha')
  have t23 := t2.trans t3
  refine (post_after (F := []) (t1.left.nil'.trans (t23.wide (G := []))) post).here ok3 h1 (p := .sh (.exc C ["reason"] [d1])) ?_ fun a ha => by simp [footP] at ha
  unfold RepP RepD RepDs
  exact ⟨a, some d, [v1], rfl, upd_same, rfl, .inr ⟨d, rfl, by rw [upd_ne (Ne.symm hne)]; exact upd_same⟩, v1, [], rfl, (shD_rep e1 rp).mono t23.sub, by unfold RepDs; rfl⟩
theorem i_val0 {bmB : List Value} {Bn newId initId : String} (F : ExcBaseFacts Bn newId initId bmB) (q : PySem.W.excIn X.K C bmB newId = true) (gC : X.mg x = some (.ref C)) (kC : PySem.W.keepIn X.K (.ref C) = true) (hg : Gl X x) (hdb : (x == ("__debug__" : Str)) = false := by decide) :
    PE X (.Call (.Name x p) [] [] pos) (tE X.K c Ke (wVal0 C)) := by
  refine wkE (pe_val0 F q gC kC hg hdb) ?_
  rintro σ H Q ⟨S, B, Kp, ok, hf, post⟩ a ha
  obtain ⟨ok2, t2⟩ := ok.share1 (o := exo a C none) ha
  refine (post_after (F := []) t2.nil' post).here ok2 hf (p := .sh (.exc C [] [])) ?_ fun a ha => by simp [footP] at ha
  unfold RepP RepD RepDs
  exact ⟨a, none, [], rfl, upd_same, rfl, .inl ⟨rfl, rfl⟩, rfl⟩

/-! ### fields of such values -/
theorem exc_inst {P : Program} {w : World} {H : Hp} {h : Heap} {a C : Addr} {dd : Option Addr} {ns : List Str} {ws : List V} (hok : HOk P w H h) (ha : H a = some (exo a C dd)) (hd : (ns = [] ∧ dd = none) ∨ ∃ d, dd = some d ∧ H d = some (.xd (ns.zip ws))) :
    ∃ ox od, PySem.W.InstAt h a ox C od ∧ ∀ n v, (ns.zip ws).lookup n = some v → ∃ o u, od = some o ∧ PySem.W.lookIn n o = some (some u) ∧ RelV v u := by
  obtain ⟨t1, ho⟩ := exo_at hok ha
  rcases hd with ⟨hn, e⟩ | ⟨d, e, hd⟩
  · subst e
    refine ⟨_, none, ⟨ho, rfl, rfl, trivial⟩, fun n v hl => by rw [hn] at hl; simp at hl⟩
  · subst e
    obtain ⟨mA, hns, rel⟩ := hok d _ hd
    obtain ⟨od, ho2, hl⟩ := lookIn_ns hns
    refine ⟨_, some od, ⟨ho, rfl, rfl, ho2⟩, fun n v e => ?_⟩
    obtain ⟨u, hu, ru⟩ := RelO.some_of (v := v) (o := mA n) (by rw [← e]; exact rel n)
    exact ⟨od, u, rfl, by rw [hl, hu], ru⟩
/-- e.n of an exception value of one of the classes Cs -/
def wXv (Cs : List Addr) (n : Str) : O1 := fun S p Kp => match p with
  | .sh (.exc C ns xs) => C ∈ Cs ∧ optK (fpos n ns) fun j => optK xs[j]? fun x => Kp (.sh x) S
  | .br (.exc C ns xs) => C ∈ Cs ∧ optK (fpos n ns) fun j => optK xs[j]? fun x => Kp (brP x) S
  | _ => False
variable {f : WE} {n : Str}
theorem i_xv {Cs : List Addr} (hC : ∀ C ∈ Cs, XfC X.K C ∧ PySem.W.findIn X.K (.ref C) n = some none) (he : PE X e (tE X.K c Ke f)) (hb : attributeBase e n X.env (eval e X.env) = eval e X.env := by rfl) : PE X (.Attribute e n pos) (tE X.K c Ke (w1 (wXv Cs n) f)) := by
  refine ⟨fun pins s σ H Q I h => ?_⟩
  obtain ⟨S, B, Kp, ok, hf, post⟩ := h
  refine attr_of hb (thn (he.run pins s σ H (fun v H1 => ∃ p S1 B1, wXv Cs n S1 p Kp ∧ Ok X.K c B1 H1 S1 σ ∧ Tr B H (feet S) B1 H1 (feet S1 ++ footP p) ∧ RepP X.K c.R B1 H1 S1 p v) I ⟨S, B, _, ok, hf, fun p S1 v B1 H1 h1 ok1 t1 r1 => ⟨p, S1, B1, h1, ok1, t1.nil, r1⟩⟩) fun u s1 ⟨v, H1, I1, rv, p, S1, B1, h1, ok1, t1, r1⟩ => ?_)
  have post := post_after t1 post
  have go : ∀ (Bx : Hp) (C : Addr) (ns : List Str) (xs : List D) (j : Nat) (x : D), Sub Bx H1 → RepD X.K Bx (.exc C ns xs) v → C ∈ Cs → fpos n ns = some j → xs[j]? = some x → (∀ w, RepD X.K Bx x w → Q w H1) → wpAny (model X.prog X.w) X.A (getAttr u n true) (EP X pins σ Q) X.xe s1 := by
    intro Bx C ns xs j x sx r hm ej ex k
    unfold RepD at r
    obtain ⟨a, dd, ws, rfl, ha, hlen, hd, hw⟩ := r
    obtain rfl : u = Value.ref a := rv
    obtain ⟨w, ew, rw'⟩ := hw.get ex
    obtain ⟨ox, od, J, look⟩ := exc_inst I1.hok (sx _ _ ha) (hd.imp id fun ⟨d, e1, e2⟩ => ⟨d, e1, sx _ _ e2⟩)
    obtain ⟨o, y, rfl, hl, ry⟩ := look n w (fpos_lookup ej ew)
    obtain ⟨T, hno⟩ := hC C hm
    exact HandSPX.exc_get I1.kIn J T.ga T.gg T.exC (PySem.W.findObj_own T.hdC hno rfl hl) (handed_of ry) ⟨w, H1, I1.tok _, ry, k w rw'⟩
  cases p with
  | sh d =>
    cases d <;> first | exact h1.elim | skip
    obtain ⟨hm, h1⟩ := h1
    obtain ⟨j, ej, h1⟩ := optK_some h1
    obtain ⟨x, ex, h1⟩ := optK_some h1
    exact go B1 _ _ _ j x ok1.rep.bh r1 hm ej ex fun w rw' => post.here ok1 h1 (p := .sh x) rw' fun a ha => by simp [footP] at ha
  | br d =>
    cases d <;> first | exact h1.elim | skip
    obtain ⟨hm, h1⟩ := h1
    obtain ⟨j, ej, h1⟩ := optK_some h1
    obtain ⟨x, ex, h1⟩ := optK_some h1
    exact go c.R _ _ _ j x ok1.rep.rh r1 hm ej ex fun w rw' => post.here ok1 h1 (brP_rep rw') fun a ha => by rw [footP_brP] at ha; simp at ha
  | ow t => exact h1.elim
  | «at» i q => exact h1.elim

/-! ### isinstance with any class -/
def kindD : D → Option Value
  | .exc C _ _ => some (.ref C)
  | .ins C _ _ => some (.ref C)
  | d => (tyD d).map .type
/-- what an own class must say, so that isinstance asks its instances rightly -/
structure IsC (K : PySem.W.Frag) (C : Addr) : Prop where
  cl : (PySem.W.clsIn K C).isSome = true
  ga : PySem.W.findIn K (.ref C) "__getattribute__" = some (some (.builtin "BaseException.__getattribute__"))
  gg : ∃ gt, PySem.W.findIn K (.ref C) "__getattr__" = some gt
  sub : PySem.W.subIn K (.ref C) (.type "BaseException") = some true
  ca : PySem.W.findIn K (.ref C) "__class__" = some (some (.builtin "object.__class__"))
  sp : PySem.W.specialIn K (.builtin "object.__class__") "__get__" = some (some (.builtin "getset_descriptor.__get__"))
  tk : PySem.W.takesIn K (.builtin "object.__class__") = some true
  ob : PySem.W.mroIn K C (.type "object") = some true
/-- the same of a class that is no exception -/
structure IsO (K : PySem.W.Frag) (C : Addr) : Prop where
  cl : Cls K C
  ca : PySem.W.findIn K (.ref C) "__class__" = some (some (.builtin "object.__class__"))
  sp : PySem.W.specialIn K (.builtin "object.__class__") "__get__" = some (some (.builtin "getset_descriptor.__get__"))
  tk : PySem.W.takesIn K (.builtin "object.__class__") = some true
  ob : PySem.W.mroIn K C (.type "object") = some true
/-- isinstance(e, n): Cs, Os the own classes that e may be of; u the class n -/
def wIs (K : PySem.W.Frag) (Cs Os : List Addr) (u : Value) (f : WE) : WE := fun S Kp Ke => f S (fun p S1 => (match pk S1 p with
    | .exc C _ _ => C ∈ Cs
    | .ins C _ _ => C ∈ Os
    | _ => True) ∧ optK (kindD (pk S1 p)) fun t => optK (PySem.W.kitOne K t u) fun b => Kp (.sh (.bl b)) S1) Ke
def rIsA (K : PySem.W.Frag) (Cs : List Addr) : List V → Hp → VK → Prop := fun xs H Q => ∃ (x cv : V) (t u : Value) (b : Bool), xs = [x, cv] ∧ ClsV cv u ∧
  (TyX K H x t ∨ ∃ a C dd, C ∈ Cs ∧ x = .ref a ∧ t = .ref C ∧ H a = some (exo a C dd) ∧ (dd = none ∨ ∃ d fs, dd = some d ∧ H d = some (.xd fs))) ∧ PySem.W.kitOne K t u = some b ∧ Q (.bl b) H
theorem call_isA {Cs : List Addr} (hCs : ∀ C ∈ Cs, IsC X.K C) : CallR X (.builtin "isinstance") (rIsA X.K Cs) := by
  intro pins s σ H xs us Q I r h
  obtain ⟨x, cv, t, u, b, rfl, k, ty, e, q⟩ := h
  rcases ty with ty | ⟨a, C, dd, hm, rfl, rfl, ha, hd⟩
  · exact call_isi pins s σ H _ us Q I r ⟨x, cv, t, u, b, rfl, k, ty, e, q⟩
  · obtain ⟨u1, u2, rfl, r1, r2⟩ := vals2 r
    have e2 := k.eq r2
    subst e2
    obtain rfl : u1 = Value.ref a := r1
    obtain ⟨t1, ho⟩ := exo_at I.hok ha
    obtain ⟨gt, hgg⟩ := (hCs C hm).gg
    have T := hCs C hm
    have fin : ∀ od, PySem.W.InstAt s.heap a ({ cls := .ref C, dict := dd, data := .fields #[.ref t1, .none, .none, .none, .bool false, .none] } : Obj) C od → wpAny (model X.prog X.w) X.A (call (.builtin "isinstance") [.ref a, u2]) (EP X pins σ Q) X.xe s := fun od J =>
      PySem.W.kia_one (PySem.W.kitx_exc T.cl T.ga hgg T.sub T.ca T.sp T.tk T.ob) I.kIn J e (fun z => nomatch z) fun tk => ⟨.bl b, H, I.tok tk, rfl, q⟩
    rcases hd with rfl | ⟨d, fs, rfl, hd⟩
    · exact fin none ⟨ho, rfl, rfl, trivial⟩
    · obtain ⟨mA, hns, rel⟩ := I.hok d _ hd
      obtain ⟨od, ho2, _⟩ := lookIn_ns hns
      exact fin (some od) ⟨ho, rfl, rfl, ho2⟩
theorem i_is {Cs Os : List Addr} {x : Str} {cv : V} {u : Value} {p0 pc : Pos} (hCs : ∀ C ∈ Cs, IsC X.K C) (hOs : ∀ C ∈ Os, IsO X.K C) (he : PE X e (tE X.K c Ke f)) (hgi : Gl X "isinstance") (hmi : X.mg "isinstance" = none) (hcv : PE X (.Name x pc) (tC cv)) (hu : ClsV cv u)
    (h1 : starEach [e, .Name x pc] X.env = (false, eval e X.env) :: starEach [.Name x pc] X.env := by rfl) (hpl : (backTo pos (starEach [.Name x pc] X.env)).any (·.1) = false := by rfl) :
    PE X (.Call (.Name "isinstance" p0) [e, .Name x pc] [] pos) (tE X.K c Ke (wIs X.K Cs Os u f)) := by
  refine wkE (pe_callB (call_isA hCs) hgi hmi (by decide +kernel) (pa_cons he (pa_cons hcv pa_nil rfl) h1) (by decide) (by decide) h1 hpl) ?_
  rintro σ H Q ⟨S, B, Kp, ok, hf, post⟩
  refine ⟨S, B, _, ok, hf, fun p S1 v B1 H1 h1 ok1 t1 r1 => ?_⟩
  obtain ⟨hm, h1⟩ := h1
  obtain ⟨t, e1, h1⟩ := optK_some h1
  obtain ⟨b, e2, h1⟩ := optK_some h1
  have rv := ok1.rep.pk r1
  refine ⟨v, cv, t, u, b, rfl, hu, ?_, e2, (post_after t1.nil post).flat ok1 (flat_bl _) h1⟩
  have base : (tyD (pk S1 p)).map Value.type = some t → TyX X.K H1 v t := fun e => by
    cases z : tyD (pk S1 p) with
    | none => rw [z] at e; cases e
    | some ty => rw [z] at e; cases e; exact tyD_of z rv
  generalize pk S1 p = d at hm e1 rv base
  cases d with
  | exc C ns xs =>
    have e1 : some (Value.ref C) = some t := e1
    cases e1
    unfold RepD at rv
    obtain ⟨a, dd, ws, rfl, ha, hl, hd, _⟩ := rv
    exact .inr ⟨a, C, dd, hm, rfl, rfl, ha, hd.imp (fun z => z.2) fun ⟨d, z1, z2⟩ => ⟨d, _, z1, z2⟩⟩
  | ins C ns xs =>
    have e1 : some (Value.ref C) = some t := e1
    cases e1
    unfold RepD at rv
    obtain ⟨a, dx, ws, rfl, ha, hl, _⟩ := rv
    obtain ⟨o1, o2, o3, o4, o5⟩ := hOs C hm
    exact .inl (.base (.ins ha o1 o2 o3 o4 o5))
  | _ => exact .inl (base e1)
end
end SL

set_option Elab.async false
set_option linter.all false
set_option maxRecDepth 100000
set_option maxHeartbeats 4000000
/-! SL20: facts of the written part, by names. -/
namespace SLH
open PySem PySem.Spec PyProof.Rows L2 He
open PySem.W (Frag findIn subIn typeIn mroIn nsIn keepIn clsIn codeIn specialIn takesIn exmOne excInitIn ks_superIn)

/-! ### a def whose closure is __class__ alone -/
structure DefX where
  cls : Str
  qual : Str
  params : Arguments
  body : List Stmt
  scope : Scope
abbrev FnX : Type := Option (Str × Str × Arguments × FuncBody × Scope × Addr × List Str × Addr)
def fnX (K : Frag) (x : Str) : FnX := match K.lookup (ma K (ga K x) "__init__") with
  | some ⟨_, _, .func fd, _⟩ => some (fd.name, fd.qualname, fd.params, fd.body, fd.scope, fd.globals, fd.closure.map (·.1), fd.builtins)
  | _ => none
def DefX.val (d : DefX) : FnX := some (PySem.Str.ofString "__init__", d.qual, d.params, .stmts d.body, d.scope, mainGlobals, [PySem.Str.ofString "__class__"], builtinsNs)
def noneB : Value → Bool
  | .none => true
  | _ => false
def eqV (a b : Option Value) : Bool := decide (a = b)
def eqB (a : Option Bool) (b : Bool) : Bool := match a with
  | some c => c == b
  | none => false
theorem eqB_ok {a : Option Bool} {b : Bool} (h : eqB a b = true) : a = some b := by
  cases a with
  | none => cases h
  | some c => rw [show c = b from beq_iff_eq.mp h]
/-- the class x: an exception with an own __init__ -/
def txB (file : Str) (K : Frag) (x : Str) : Bool :=
  (clsIn K (ga K x)).any (fun cd => PySem.HandSPX.refsVE cd.mro && cd.hasDict) && (excInitIn K (ga K x) SLX.veB "ValueError.__new__" &&
  (eqO (findIn K (.ref (ga K x)) "__setattr__") (some (some (.builtin "object.__setattr__"))) && (eqO (findIn K (.ref (ga K x)) "__init__") (some (some (.ref (ma K (ga K x) "__init__")))) &&
  (eqV (typeIn K (.ref (ma K (ga K x) "__init__"))) (some (.type "function")) && (keepIn K (.ref (ga K x)) && (eqB (subIn K (.ref (ga K x)) (.type "BaseException")) true && (eqV (typeIn K (.ref (ga K x))) (some (.type "type")) &&
  (eqO (ks_superIn K (ga K x) (ga K x) "__init__") (some (some (.builtin "ValueError.__init__"))) && (eqB (subIn K (.ref (ga K x)) (.type "ValueError")) true && (eqB (mroIn K (ga K x) (.ref (ga K x))) true &&
  (eqO (nsIn K cStatics "thirdparty.any") (some none) && eqO (nsIn K mainGlobals "super") (some none))))))))))))
def strAt (vs : Array Value) (file : Str) : Bool := match (vs[2]? : Option Value) with
  | some (.str f _) => file == f
  | _ => false
def fxB (file : Str) (K : Frag) (x qual : Str) : Bool := match K.lookup (ma K (ga K x) "__init__") with
  | some ⟨_, _, .func fd, _⟩ => noneB fd.defaults && (noneB fd.kwdefaults && ((match fd.code with
    | .ref cda => codeIn K (.ref cda) qual && (match K.lookup cda with
      | some ⟨_, _, .fields vs, _⟩ => strAt vs file
      | _ => false)
    | _ => false) && (match fd.closure with
    | [(_, cc)] => (match K.lookup cc with
      | some ⟨_, _, .cell (some (.ref D)), _⟩ => decide (D = ga K x)
      | _ => false)
    | _ => false)))
  | _ => false
theorem tx_ok {prog : Program} {K : Frag} {x qual : Str} {as : List Arg} {body : List Stmt} {ns : List Str} (top : (prog.main.scope.names.lookup ("super" : Str)).isSome = false) (h1 : txB (prog.main.file : Str) K x = true) (h2 : fxB (prog.main.file : Str) K x qual = true)
    (e : fnX K x = DefX.val ⟨x, qual, SLX.sArgs as, body, SLX.sScope ns⟩) : SLX.Txt prog K (ga K x) (ma K (ga K x) "__init__") qual as body ns := by
  obtain ⟨a1, h1⟩ := ba h1
  obtain ⟨a2, h1⟩ := ba h1
  obtain ⟨a3, h1⟩ := ba h1
  obtain ⟨a4, h1⟩ := ba h1
  obtain ⟨a5, h1⟩ := ba h1
  obtain ⟨a6, h1⟩ := ba h1
  obtain ⟨a7, h1⟩ := ba h1
  obtain ⟨a8, h1⟩ := ba h1
  obtain ⟨a9, h1⟩ := ba h1
  obtain ⟨a10, h1⟩ := ba h1
  obtain ⟨a11, h1⟩ := ba h1
  obtain ⟨a12, a13⟩ := ba h1
  refine ⟨?_, a2, eqO_ok a3, eqO_ok a4, of_decide_eq_true a5, a6, eqB_ok a7, of_decide_eq_true a8, eqO_ok a9, eqB_ok a10, eqB_ok a11, eqO_ok a12, eqO_ok a13, top, ?_⟩
  · cases q : clsIn K (ga K x) with
    | none => rw [q] at a1; cases a1
    | some cd =>
      rw [q] at a1
      obtain ⟨b1, b2⟩ := ba a1
      exact ⟨cd, rfl, b1, b2⟩
  · unfold fxB at h2
    unfold fnX at e
    cases q : K.lookup (ma K (ga K x) "__init__") with
    | none => rw [q] at h2; cases h2
    | some o =>
      obtain ⟨oc, od, dt, osl⟩ := o
      rw [q] at h2 e
      cases dt with
      | func fd =>
        obtain ⟨n1, n2, n3, n4, n5, n6, n7, n8, n9, n10, n11, n12, n13, n14, n15⟩ := fd
        have e2 : (some (n1, n2, n3, n4, n5, n6, n7.map (·.1), n15) : FnX) = some (PySem.Str.ofString "__init__", qual, SLX.sArgs as, .stmts body, SLX.sScope ns, mainGlobals, [PySem.Str.ofString "__class__"], builtinsNs) := e
        simp only [Option.some.injEq, Prod.mk.injEq] at e2
        obtain ⟨i1, i2, i3, i4, i5, i6, i7, i8⟩ := e2
        subst i1 i2 i3 i4 i5 i6 i8
        dsimp only at h2
        obtain ⟨c1, h2⟩ := ba h2
        obtain ⟨c2, h2⟩ := ba h2
        obtain ⟨c3, c4⟩ := ba h2
        have d1 : n8 = .none := by cases n8 <;> first | rfl | cases c1
        have d2 : n9 = .none := by cases n9 <;> first | rfl | cases c2
        subst d1 d2
        obtain ⟨cda, rfl⟩ : ∃ cda, n13 = .ref cda := by cases n13 <;> first | exact ⟨_, rfl⟩ | cases c3
        obtain ⟨c5, c6⟩ := ba c3
        cases n7 with
        | nil => cases c4
        | cons p r =>
          cases r with
          | cons _ _ => cases c4
          | nil =>
            obtain ⟨pn, cc⟩ := p
            have epn : pn = PySem.Str.ofString "__class__" := by simpa using i7
            subst epn
            dsimp only at c4
            cases q2 : K.lookup cc with
            | none => rw [q2] at c4; cases c4
            | some o2 =>
              obtain ⟨cl, cld, dt2, csl⟩ := o2
              rw [q2] at c4
              cases dt2 <;> first | (cases c4; done) | skip
              rename_i cv
              cases cv with
              | none => cases c4
              | some v =>
                cases v <;> first | (cases c4; done) | skip
                rename_i D
                have eD : D = ga K x := of_decide_eq_true c4
                cases q3 : K.lookup cda with
                | none => rw [q3] at c6; cases c6
                | some o3 =>
                  obtain ⟨ccl, cdd, dt3, ccs⟩ := o3
                  rw [q3] at c6
                  cases dt3 <;> first | (cases c6; done) | skip
                  rename_i vs
                  dsimp only at c6
                  unfold strAt at c6
                  cases q4 : vs[2]? with
                  | none => rw [q4] at c6; cases c6
                  | some v4 =>
                    rw [q4] at c6
                    cases v4 <;> first | (cases c6; done) | skip
                    rename_i f tf
                    rw [eD] at q2
                    exact ⟨oc, od, _, _, _, cda, _, osl, cc, cl, cld, csl, ccl, cdd, vs, ccs, f, tf, rfl, c5, q2, q3, q4, c6⟩
      | _ => cases h2

/-! ### the Hook -/
def asS (g : Addr → Option Obj) : Nat → List Addr
  | 0 => [mainGlobals, cStatics]
  | n + 1 => growD g (asS g n)
abbrev AlS : Type := Bool × List FnW × List FnX
def obsS (fs : List (Frag → Bool)) (fn : List DefD) (fx : List DefX) (K : Frag) : AlS := ((fs.all fun f => f K) && fn.all fun d => d.ok K, fn.map fun d => fnW K d.at_, fx.map fun d => fnX K d.cls)
def valS (fn : List DefD) (fx : List DefX) : AlS := (true, fn.map DefD.val, fx.map DefX.val)
def SaysS (fs : List (Frag → Bool)) (fn : List DefD) (fx : List DefX) (K : Frag) : Prop := obsS fs fn fx K = valS fn fx
def obsSG (n : Nat) (fs : List (Frag → Bool)) (fn : List DefD) (fx : List DefX) (g : Addr → Option Obj) : AlS := obsS fs fn fx (frG g (asS g n))
def hookS (n : Nat) (fs : List (Frag → Bool)) (fn : List DefD) (fx : List DefX) : PySem.W.Hook where
  α := AlS
  obs := fun s => obsSG n fs fn fx s.heap.get?
  val := fun _ => valS fn fx
  says := fun _ h => ∃ K : Frag, K.In h ∧ SaysS fs fn fx K
  of := fun _ _ e => ⟨_, frG_in, e⟩
  keeps := fun _ _ _ ⟨K, hK, c⟩ k => ⟨K, PySem.W.Frag.In.keeps hK k, c⟩
theorem obsSG_eq {n : Nat} {fs : List (Frag → Bool)} {fn : List DefD} {fx : List DefX} {g : Addr → Option Obj} {s : Shared} (h : ∀ a, g a = s.heap.get? a) : obsSG n fs fn fx g = (hookS n fs fn fx).obs s := by
  have e : g = s.heap.get? := funext h
  rw [e] <;> rfl
section
variable {fs : List (Frag → Bool)} {fn : List DefD} {fx : List DefX} {K : Frag}
theorem SaysS.all (c : SaysS fs fn fx K) : (fs.all fun f => f K) = true := (ba (show ((fs.all fun f => f K) && fn.all fun d => d.ok K) = true from congrArg (fun z : AlS => z.1) c)).1
theorem SaysS.fact (c : SaysS fs fn fx K) (i : Nat) {f : Frag → Bool} (h : fs[i]? = some f := by rfl) : f K = true := List.all_eq_true.mp c.all f (List.mem_of_getElem? h)
theorem SaysS.def_ (c : SaysS fs fn fx K) (i : Nat) {d : DefD} (h : fn[i]? = some d := by rfl) : ∃ fd, FunD K d.name d.qual d.params d.body d.scope (d.dvs K) (d.kws K) (fAd K d.at_) fd := by
  have c2 := (ba (show ((fs.all fun f => f K) && fn.all fun d => d.ok K) = true from congrArg (fun z : AlS => z.1) c)).2
  have e : fn.map (fun d => fnW K d.at_) = fn.map DefD.val := congrArg (fun z : AlS => z.2.1) c
  have e2 : (fn.map fun d => fnW K d.at_)[i]? = (fn.map DefD.val)[i]? := by rw [e]
  rw [List.getElem?_map, List.getElem?_map, h] at e2
  exact DefD.funD (Option.some.inj e2) (List.all_eq_true.mp c2 d (List.mem_of_getElem? h))
theorem SaysS.x_ (c : SaysS fs fn fx K) (i : Nat) {d : DefX} (h : fx[i]? = some d := by rfl) : fnX K d.cls = d.val := by
  have e : fx.map (fun d => fnX K d.cls) = fx.map DefX.val := congrArg (fun z : AlS => z.2.2) c
  have e2 : (fx.map fun d => fnX K d.cls)[i]? = (fx.map DefX.val)[i]? := by rw [e]
  rw [List.getElem?_map, List.getElem?_map, h] at e2
  exact Option.some.inj e2
end
/-- a member of a class's suite -/
def mem (st : Stmt) (j : Nat) : Stmt := match st with
  | .ClassDef _ _ _ b _ _ _ _ _ _ _ => b.getD j (.Pass ⟨0, 0, 0, 0⟩)
  | _ => .Pass ⟨0, 0, 0, 0⟩
def psOf (l : List (Nat × Nat × Nat × Nat)) (n : Nat) : Pos := match l[n]? with
  | some (a, b, c, d) => ⟨a, b, c, d⟩
  | none => ⟨0, 0, 0, 0⟩
end SLH
namespace SL
open PySem PySem.Spec PyProof.Rows L2
/-- a def of the text by its body -/
theorem sl_ok {P : Program} {w : World} {K : PySem.W.Frag} {mg : Str → Option Value} {base : Heap} {k : Nat} {f : Addr} {fd : FuncData} {x qual : Str} {params : Arguments} {body : List Stmt} {scope : Scope} {dvs : List V} {kws : List (Str × V)} {N ps : List Str} {C : Con} {W : WS}
    (F : FunD K x qual params body scope dvs kws f fd) (S : FnScope N ps scope)
    (hbody : ∀ (cdv : Value) (A : Around) (outer : List Env) (s : Shared) (H : Hp) (E : XK) (c : Ct) (Ke : KE), Room k (A.deeper (envOfC qual scope s.heap.objs.size f cdv)) → Takes (cxOf (L2.CX P w) P w K mg base N qual scope f cdv A outer s H E) (wxS K c Ke) →
      PSs (cxOf (L2.CX P w) P w K mg base N qual scope f cdv A outer s H E) body (tS K c Ke W))
    (hw : ∀ ts Kr Kx, ts.length = ps.length → C ts Kr Kx → W (ts ++ List.replicate (N.length - ps.length) .un) (kOf ts Kr Kx)) : FnOk P w K mg base (L2.CX P w) (k + 1) f fd ps (SpI K ps.length C) := by
  obtain ⟨oc, od, dV, kV, doc, pm, an, cdv, ct, osl, rfl, lk, hcd, _, _⟩ := F.ex
  exact fn_sl lk hcd S (fun A outer s H E c Ke hr tk => hbody cdv A outer s H E c Ke hr tk) hw
/-- the law's def at a script -/
theorem sl_law {K : PySem.W.Frag} {C : Con} {n : Nat} (hC : ∀ (ns : List Int) Kr Kx, ns.length ≤ n → Kr (.sh (.bl true)) [.sh (.sq (iD ns))] → C [.sh (.sq (iD ns))] Kr Kx) (H : Hp) (a : Addr) (ns : List Int) (hl : ns.length ≤ n) (hS : SqL K H a (ns.map V.int)) :
    SpI K 1 C [.ref a] H (fun v _ => v = .bl true) fun _ _ _ => False := by
  have hr : RepDs K H (iD ns) (ns.map V.int) := by
    clear hS hl
    induction ns with
    | nil => unfold RepDs; rfl
    | cons n ns ih =>
      show RepDs K H (.int n :: iD ns) (.int n :: ns.map V.int)
      unfold RepDs
      exact ⟨_, _, rfl, flat_int n K H, ih⟩
  refine ⟨[.sh (.sq (iD ns))], H, H, fun p ts' => p = .sh (.bl true) ∧ ts' = [.sh (.sq (iD ns))], fun _ _ => False, rfl, ⟨Sub.refl H, Sub.refl H, by simp [feet, foot], fun a ha => by simp [feet, foot] at ha, fun a ha => by simp [feet, foot] at ha, ?_⟩, hC ns _ _ hl ⟨rfl, rfl⟩, fun p ts' v B' H' hk _ _ rp => ?_, fun ev ts' cls d B' H' hk _ _ _ => hk⟩
  · refine RepTs.one ?_
    unfold RepT RepD
    exact ⟨a, _, rfl, hS, hr⟩
  · obtain ⟨rfl, _⟩ := hk
    unfold RepP RepD at rp
    exact rp
end SL

set_option Elab.async false
set_option linter.all false
set_option maxRecDepth 100000
set_option maxHeartbeats 4000000
/-! SL21: what a walk asks of a def. -/
namespace SL
open PySem PySem.Spec PyProof.Rows L2
/-- a def of the module by name, with its promise -/
def Good (P : Program) (w : World) (K : PySem.W.Frag) (mg : Str → Option Value) (base : Heap) (k : Nat) (x : Str) (ps : List Str) (C : Con) : Prop := ∃ fd, PySem.W.keepIn K (.ref (He.ga K x)) = true ∧ Binds K fd ps [] ∧ mg x = some (.ref (He.ga K x)) ∧
  FnOk P w K mg base (L2.CX P w) k (He.ga K x) fd ps (SpI K ps.length C)
theorem Good.mono {P : Program} {w : World} {K : PySem.W.Frag} {mg : Str → Option Value} {base : Heap} {j k : Nat} {x : Str} {ps : List Str} {C : Con} (g : Good P w K mg base j x ps C) (h : j ≤ k) : Good P w K mg base k x ps C := by
  obtain ⟨fd, h1, h2, h3, h4⟩ := g
  exact ⟨fd, h1, h2, h3, h4.mono h⟩
/-- a weaker promise -/
theorem Good.imp {P : Program} {w : World} {K : PySem.W.Frag} {mg : Str → Option Value} {base : Heap} {k : Nat} {x : Str} {ps : List Str} {C C' : Con} (g : Good P w K mg base k x ps C) (h : ∀ ts Kr Kx, C' ts Kr Kx → C ts Kr Kx) : Good P w K mg base k x ps C' := by
  obtain ⟨fd, h1, h2, h3, h4⟩ := g
  exact ⟨fd, h1, h2, h3, h4.imp fun vs H Q E ⟨ts, R, B, Kr, Kx, q1, q2, q3, q4, q5⟩ => ⟨ts, R, B, Kr, Kx, q1, q2, h _ _ _ q3, q4, q5⟩⟩
def never : Con := fun _ _ _ => False
theorem good_mk {P : Program} {w : World} {K : PySem.W.Frag} {mg : Str → Option Value} {base h : Heap} {k : Nat} {x qual : Str} {params : Arguments} {body : List Stmt} {scope : Scope} {fd : FuncData} {N ps : List Str} {C : Con} {W : WS} (hm : mg x = some (.ref (He.ga K x)))
    (F : FunD K x qual params body scope [] [] (He.ga K x) fd) (hb : Binds K fd ps []) (S : FnScope N ps scope)
    (hbody : ∀ (cdv : Value) (A : Around) (outer : List Env) (s : Shared) (H : Hp) (E : XK) (c : Ct) (Ke : KE), Room k (A.deeper (envOfC qual scope s.heap.objs.size (He.ga K x) cdv)) → Takes (cxOf (L2.CX P w) P w K mg base N qual scope (He.ga K x) cdv A outer s H E) (wxS K c Ke) →
      PSs (cxOf (L2.CX P w) P w K mg base N qual scope (He.ga K x) cdv A outer s H E) body (tS K c Ke W))
    (hw : ∀ ts Kr Kx, ts.length = ps.length → C ts Kr Kx → W (ts ++ List.replicate (N.length - ps.length) .un) (kOf ts Kr Kx)) : Good P w K mg base (k + 1) x ps C :=
  ⟨fd, F.kp, hb, hm, sl_ok F S hbody hw⟩
theorem good_never {P : Program} {w : World} {K : PySem.W.Frag} {mg : Str → Option Value} {base : Heap} {k : Nat} {x qual : Str} {params : Arguments} {body : List Stmt} {scope : Scope} {fd : FuncData} {ps : List Str} (hm : mg x = some (.ref (He.ga K x)))
    (F : FunD K x qual params body scope [] [] (He.ga K x) fd) (hb : Binds K fd ps []) : Good P w K mg base k x ps never :=
  ⟨fd, F.kp, hb, hm, ⟨fun vs H Q E ⟨ts, R, B, Kr, Kx, q1, q2, q3, _⟩ => q3.elim, fun A outer s H args us vs Q E hr he hb hv ⟨ts, R, B, Kr, Kx, q1, q2, q3, _⟩ => q3.elim⟩⟩
section
variable {X : Cx} {c : Ct} {Ke : KE} {e : Expr} {es : List Expr} {fa : WA} {k : Nat} {pr : List Str} {C : Con} {x : Str} {p pos : Pos} {f : WE}
theorem i_callG (ms : List Md) (g : Good X.prog X.w X.K X.mg X.base k x pr C) (hr : Room k X.A) (hg : Gl X x) (tk : Takes X (wxS X.K c Ke)) (ha : PA X (e :: es) (tA X.K c Ke fa)) (hdb : (x == ("__debug__" : Str)) = false := by decide)
    (he : starEach (e :: es) X.env = (false, eval e X.env) :: starEach es X.env := by rfl) (hpl : (backTo pos (starEach es X.env)).any (·.1) = false := by rfl) : PE X (.Call (.Name x p) (e :: es) [] pos) (tE X.K c Ke (wCall pr.length C ms fa)) := by
  obtain ⟨fd, h1, h2, h3, h4⟩ := g
  exact i_call ms h4 hr hg h3 h1 h2 tk ha hdb he hpl
theorem tk_none {c : Ct} : Takes X (wxS X.K c noEx) := takes_none5.imp fun cls d σ H ⟨_, _, _, h, _⟩ => h.elim
/-! ### str.join -/
def tStr : T → Option Str
  | .sh (.str x) => some x
  | _ => none
def tStrs : List T → Option (List Str)
  | [] => some []
  | t :: ts => (tStr t).bind fun i => (tStrs ts).map fun is => i :: is
theorem tStrs_rep {K : PySem.W.Frag} {R B H : Hp} : ∀ {ts : List T} {ws : List V} {ns : List Str}, tStrs ts = some ns → RepTs K R B H ts ws → ws = ns.map V.str
  | [], _, _, e, h => by cases e; unfold RepTs at h; subst h; rfl
  | t :: ts, _, ns, e, h => by
    obtain ⟨i, r, e1, e2, rfl⟩ := bind_map_some (f := id) e
    unfold RepTs at h
    obtain ⟨w, ws, rfl, h1, h2⟩ := h
    have i1 := tStrs_rep e2 h2
    cases t <;> simp only [tStr] at e1 <;> first | (cases e1; done) | skip
    rename_i d
    cases d <;> simp only [tStr] at e1 <;> first | (cases e1; done) | skip
    cases e1
    unfold RepT RepD at h1
    subst h1
    rw [i1]; rfl
def isS : D → Prop
  | .str _ => True
  | _ => False
theorem ty_str (K : PySem.W.Frag) : ∀ H d v, isS d → RepD K H d v → tyV K "str" v H := fun H d v h r => by
  cases d <;> first | exact h.elim | skip
  unfold RepD at r
  subst r
  rfl
def gJoin : OM := fun S p ps Kp => match pk S p with
  | .str a => match ps with
    | [x] => optK (kids S x) fun kt => optK (tStrs kt.2) fun ys => (ys.map (·.length)).sum + ys.length * a.length ≤ 1000000 ∧ Kp (.sh (.str (Txt.join a ys))) S
    | _ => False
  | _ => False
theorem opm_join {K : PySem.W.Frag} : OpM K (fun x xs H Q => ∃ a p, ∃ ys : List Str, x = .str a ∧ xs = [.ref p] ∧ (SqL K H p (ys.map V.str) ∨ SqT K H p (ys.map V.str)) ∧ (ys.map (·.length)).sum + ys.length * a.length ≤ 16777216 ∧ Q (.str (Txt.join a ys)) H) gJoin := by
  intro c B H S σ p v ps vs Kp Q ok tr0 r rs d h post
  unfold gJoin at h
  generalize e : pk S p = dd at h
  cases dd <;> first | exact h.elim | skip
  rename_i a
  have h' : ∃ x, ps = [x] ∧ optK (kids S x) fun kt => optK (tStrs kt.2) fun ys => (ys.map (·.length)).sum + ys.length * a.length ≤ 1000000 ∧ Kp (.sh (.str (Txt.join a ys))) S := by
    match ps, h with
    | [x], h => exact ⟨x, rfl, h⟩
  obtain ⟨x, rfl, h⟩ := h'
  obtain ⟨⟨k, ts⟩, e1, h⟩ := optK_some h
  obtain ⟨ys, e2, hl, h⟩ := optK_some h
  obtain ⟨w, rfl, rx⟩ := reps1 rs
  obtain ⟨q, ws, rfl, h1, h2⟩ := kids_rep ok.rep rx e1
  have e3 := tStrs_rep e2 h2
  subst e3
  exact ⟨a, q, ys, pk_str ok.rep r e, rfl, h1.any, by omega, post.flat ok (flat_str _) h⟩
section
variable {X : Cx} {c : Ct} {Ke : KE} {o e : Expr} {fo : WE} {fa : WA} {apos cpos : Pos}
theorem i_join (ho : PE X o (tE X.K c Ke fo)) (ha : PA X [e] (tA X.K c Ke fa)) (hbase : attributeBase o "join" X.env (eval o X.env) = eval o X.env := by rfl)
    (hfew : ((backTo cpos (starEach [e] X.env)).all (fun x => !x.1) && (backToKw cpos (keywordEach [] X.env)).all (fun x => x.1.isSome) && decide ([e].length + ([] : List Keyword).length + (if ([] : List Keyword).isEmpty then 0 else 1) < 30)) = true := by rfl)
    (hline : (apos.endLine == cpos.line) = true := by rfl) (hs : starEach [e] X.env = (false, eval e X.env) :: starEach [] X.env := by rfl) :
    PE X (.Call (.Attribute o "join" apos) [e] [] cpos) (tE X.K c Ke (wBM isS gJoin fo fa)) :=
  i_bm F.plainAttrs_str F.slot_str_join F.type_str_join mt_join (ty_str _) opm_join ho ha hbase hfew hline hs rfl
end
end
end SL

set_option Elab.async false
set_option linter.all false
set_option maxRecDepth 100000
set_option maxHeartbeats 4000000
/-! SL22: the walk's terms stepped: every continuation is a term of its own, so that simp turns the head alone. -/
namespace SL
open PySem PySem.Spec PyProof.Rows L2

section
variable {S S' S1 S2 S3 : List T} {K : KP} {Ke : KE} {Kb : Bool → List T → Prop} {KA : List P → List T → Prop} {k : KS} {f g h : WE} {fa ga : WA} {t u : WT} {a b : WS} {p q r : P} {ps : List P}
/-! ### expressions -/
def k1 (g : O1) (K : KP) : KP := fun p S => g S p K
theorem s_1 {g : O1} : w1 g f S K Ke = f S (k1 g K) Ke := by first | exact propext Iff.rfl | rfl
theorem s_k1 {g : O1} : k1 g K p S = g S p K := by first | exact propext Iff.rfl | rfl
def k2 (g : O2) (h : WE) (K : KP) (Ke : KE) : KP := fun p S1 => h S1 (fun q S2 => okAt p S1 S2 ∧ g S2 p q K) Ke
def k2' (g : O2) (p : P) (S1 : List T) (K : KP) : KP := fun q S2 => okAt p S1 S2 ∧ g S2 p q K
theorem s_2 {g : O2} : w2 g f h S K Ke = f S (k2 g h K Ke) Ke := by first | exact propext Iff.rfl | rfl
theorem s_k2 {g : O2} : k2 g h K Ke p S = h S (k2' g p S K) Ke := by first | exact propext Iff.rfl | rfl
theorem s_k2' {g : O2} : k2' g p S1 K q S2 = (okAt p S1 S2 ∧ g S2 p q K) := by first | exact propext Iff.rfl | rfl
def kA (g : OA) (K : KP) : List P → List T → Prop := fun ps S => g S ps K
theorem s_cb {g : OA} : wCB g fa S K Ke = fa S (kA g K) Ke := by first | exact propext Iff.rfl | rfl
theorem s_kA {g : OA} : kA g K ps S = g S ps K := by first | exact propext Iff.rfl | rfl
theorem s_nil : wNil S KA Ke = KA [] S := by first | exact propext Iff.rfl | rfl
def kC (h : WA) (KA : List P → List T → Prop) (Ke : KE) : KP := fun p S1 => h S1 (fun ps S2 => okAt p S1 S2 ∧ KA (p :: ps) S2) Ke
def kC' (p : P) (S1 : List T) (KA : List P → List T → Prop) : List P → List T → Prop := fun ps S2 => okAt p S1 S2 ∧ KA (p :: ps) S2
theorem s_cons : wCons f fa S KA Ke = f S (kC fa KA Ke) Ke := by first | exact propext Iff.rfl | rfl
theorem s_kC : kC fa KA Ke p S = fa S (kC' p S KA) Ke := by first | exact propext Iff.rfl | rfl
theorem s_kC' : kC' p S1 KA ps S2 = (okAt p S1 S2 ∧ KA (p :: ps) S2) := by first | exact propext Iff.rfl | rfl
theorem s_c {d : D} : wC d S K Ke = K (.sh d) S := by first | exact propext Iff.rfl | rfl
def kMov (K : KP) : KP := fun p S => mov p S K
theorem s_move : wMove f S K Ke = f S (kMov K) Ke := by first | exact propext Iff.rfl | rfl
theorem s_kMov : kMov K p S = mov p S K := by first | exact propext Iff.rfl | rfl
def kShr (K : KP) : KP := fun p S => shr p S K
theorem s_share : wShare f S K Ke = f S (kShr K) Ke := by first | exact propext Iff.rfl | rfl
theorem s_kShr : kShr K p S = shr p S K := by first | exact propext Iff.rfl | rfl
def kLst (K : KP) : List P → List T → Prop := fun ps S => ps.length ≤ 1000 ∧ ∀ a, K (.ow (.lst a (ps.map pT))) S
theorem s_lst : wLst fa S K Ke = fa S (kLst K) Ke := by first | exact propext Iff.rfl | rfl
theorem s_kLst : kLst K ps S = (ps.length ≤ 1000 ∧ ∀ a, K (.ow (.lst a (ps.map pT))) S) := by first | exact propext Iff.rfl | rfl
def kTup (K : KP) : List P → List T → Prop := fun ps S => ps.length ≤ 1000 ∧ optK (shDs ps) fun ds => K (.sh (.tup ds)) S
theorem s_tup : wTup fa S K Ke = fa S (kTup K) Ke := by first | exact propext Iff.rfl | rfl
theorem s_kTup : kTup K ps S = (ps.length ≤ 1000 ∧ optK (shDs ps) fun ds => K (.sh (.tup ds)) S) := by first | exact propext Iff.rfl | rfl
def kIsi (T' : String) (K : KP) : KP := fun p S1 => optK (tyD (pk S1 p)) fun t => optK (kitB t T') fun b => K (.sh (.bl b)) S1
theorem s_isi {T' : String} : wIsi T' f S K Ke = f S (kIsi T' K) Ke := by first | exact propext Iff.rfl | rfl
theorem s_kIsi {T' : String} : kIsi T' K p S = optK (tyD (pk S p)) fun t => optK (kitB t T') fun b => K (.sh (.bl b)) S := by first | exact propext Iff.rfl | rfl
/-! ### tests -/
def kTB (Kb : Bool → List T → Prop) : KP := fun p S1 => match pk S1 p with
  | .bl b => Kb b S1
  | _ => False
theorem s_tb : wTB f S Kb Ke = f S (kTB Kb) Ke := by first | exact propext Iff.rfl | rfl
theorem s_kTB_sh {c : Bool} : kTB Kb (.sh (.bl c)) S = Kb c S := by first | exact propext Iff.rfl | rfl
theorem s_kTB_br {c : Bool} : kTB Kb (.br (.bl c)) S = Kb c S := by first | exact propext Iff.rfl | rfl
def kTru (Kb : Bool → List T → Prop) : KP := fun p S1 => match (pk S1 p).truth with
  | some b => Kb b S1
  | none => False
theorem s_yes : wYes S Kb Ke = Kb true S := by first | exact propext Iff.rfl | rfl
def kAnd (u : WT) (Kb : Bool → List T → Prop) (Ke : KE) : Bool → List T → Prop := fun b S1 => if b = true then u S1 Kb Ke else Kb false S1
theorem s_and : wAnd t u S Kb Ke = t S (kAnd u Kb Ke) Ke := by first | exact propext Iff.rfl | rfl
theorem s_kAnd_t : kAnd u Kb Ke true S = u S Kb Ke := by first | exact propext Iff.rfl | rfl
theorem s_kAnd_f : kAnd u Kb Ke false S = Kb false S := by first | exact propext Iff.rfl | rfl
def kOr (u : WT) (Kb : Bool → List T → Prop) (Ke : KE) : Bool → List T → Prop := fun b S1 => if b = true then Kb true S1 else u S1 Kb Ke
theorem s_or : wOr t u S Kb Ke = t S (kOr u Kb Ke) Ke := by first | exact propext Iff.rfl | rfl
theorem s_kOr_t : kOr u Kb Ke true S = Kb true S := by first | exact propext Iff.rfl | rfl
theorem s_kOr_f : kOr u Kb Ke false S = u S Kb Ke := by first | exact propext Iff.rfl | rfl
def kNot (Kb : Bool → List T → Prop) : Bool → List T → Prop := fun b S1 => Kb (!b) S1
theorem s_not : SL.wNot t S Kb Ke = t S (kNot Kb) Ke := by first | exact propext Iff.rfl | rfl
theorem s_kNot {c : Bool} : kNot Kb c S = Kb (!c) S := by first | exact propext Iff.rfl | rfl
def kBV (K : KP) : Bool → List T → Prop := fun b S1 => K (.sh (.bl b)) S1
theorem s_bv : wBV t S K Ke = t S (kBV K) Ke := by first | exact propext Iff.rfl | rfl
theorem s_kBV {c : Bool} : kBV K c S = K (.sh (.bl c)) S := by first | exact propext Iff.rfl | rfl
def kAndV (g : WE) (K : KP) (Ke : KE) : KP := fun p S1 => match pk S1 p with
  | .bl true => g S1 K Ke
  | .bl false => K (.sh (.bl false)) S1
  | _ => False
theorem s_andV : wAndV f g S K Ke = f S (kAndV g K Ke) Ke := by first | exact propext Iff.rfl | rfl
theorem s_kAndV_t : kAndV g K Ke (.sh (.bl true)) S = g S K Ke := by first | exact propext Iff.rfl | rfl
theorem s_kAndV_f : kAndV g K Ke (.sh (.bl false)) S = K (.sh (.bl false)) S := by first | exact propext Iff.rfl | rfl
def kOrV (g : WE) (K : KP) (Ke : KE) : KP := fun p S1 => match pk S1 p with
  | .bl false => g S1 K Ke
  | .bl true => K (.sh (.bl true)) S1
  | _ => False
theorem s_orV : wOrV f g S K Ke = f S (kOrV g K Ke) Ke := by first | exact propext Iff.rfl | rfl
theorem s_kOrV_t : kOrV g K Ke (.sh (.bl true)) S = K (.sh (.bl true)) S := by first | exact propext Iff.rfl | rfl
theorem s_kOrV_f : kOrV g K Ke (.sh (.bl false)) S = g S K Ke := by first | exact propext Iff.rfl | rfl
def kNotV (K : KP) : KP := fun p S1 => match pk S1 p with
  | .bl b => K (.sh (.bl (!b))) S1
  | _ => False
theorem s_notV : wNotV f S K Ke = f S (kNotV K) Ke := by first | exact propext Iff.rfl | rfl
theorem s_kNotV {c : Bool} : kNotV K (.sh (.bl c)) S = K (.sh (.bl (!c))) S := by first | exact propext Iff.rfl | rfl
def kIfE (f g : WE) (K : KP) (Ke : KE) : Bool → List T → Prop := fun b S1 => if b = true then f S1 K Ke else g S1 K Ke
theorem s_ife : wIfE t f g S K Ke = t S (kIfE f g K Ke) Ke := by first | exact propext Iff.rfl | rfl
theorem s_kIfE_t : kIfE f g K Ke true S = f S K Ke := by first | exact propext Iff.rfl | rfl
theorem s_kIfE_f : kIfE f g K Ke false S = g S K Ke := by first | exact propext Iff.rfl | rfl
def kCh (C C' : Int → Int → Bool) (h f : WE) (K : KP) (Ke : KE) : KP := fun p S1 => h S1 (fun q S2 => okAt p S1 S2 ∧ match pk S2 p, pk S2 q with
  | .int i, .int j => if C i j = true then f S2 (fun r S3 => match pk S3 r with
    | .int l => K (.sh (.bl (C' j l))) S3
    | _ => False) Ke else K (.sh (.bl false)) S2
  | _, _ => False) Ke
theorem s_ch {C C' : Int → Int → Bool} : wChain C C' f g h S K Ke = f S (kCh C C' g h K Ke) Ke := by first | exact propext Iff.rfl | rfl
def kCh2 (C C' : Int → Int → Bool) (f : WE) (p : P) (S1 : List T) (K : KP) (Ke : KE) : KP := fun q S2 => okAt p S1 S2 ∧ match pk S2 p, pk S2 q with
  | .int i, .int j => if C i j = true then f S2 (fun r S3 => match pk S3 r with
    | .int l => K (.sh (.bl (C' j l))) S3
    | _ => False) Ke else K (.sh (.bl false)) S2
  | _, _ => False
theorem s_kCh {C C' : Int → Int → Bool} : kCh C C' g f K Ke p S = g S (kCh2 C C' f p S K Ke) Ke := by first | exact propext Iff.rfl | rfl
def kCh3 (C' : Int → Int → Bool) (j : Int) (K : KP) : KP := fun r S3 => match pk S3 r with
  | .int l => K (.sh (.bl (C' j l))) S3
  | _ => False
theorem s_kCh2 {C C' : Int → Int → Bool} {i j : Int} (e1 : pk S2 p = .int i) (e2 : pk S2 q = .int j) : kCh2 C C' f p S1 K Ke q S2 = (okAt p S1 S2 ∧ if C i j = true then f S2 (kCh3 C' j K) Ke else K (.sh (.bl false)) S2) := by
  unfold kCh2; rw [e1, e2]; rfl
theorem s_kCh3 {C' : Int → Int → Bool} {j l : Int} : kCh3 C' j K (.sh (.int l)) S = K (.sh (.bl (C' j l))) S := by first | exact propext Iff.rfl | rfl
/-! ### calls -/
def kRet (S : List T) (ms : List Md) (ps : List P) (K : KP) : P → List T → Prop := fun p ts' => rOk p = true ∧ optK (back S ms ps ts') fun S2 => K p S2
theorem s_kRet {ms : List Md} {ts : List T} : kRet S ms ps K p ts = (rOk p = true ∧ optK (back S ms ps ts) fun S2 => K p S2) := by first | exact propext Iff.rfl | rfl
def kExc (S : List T) (ms : List Md) (ps : List P) (Ke : KE) : Ev → List T → Prop := fun ev ts' => optK (back S ms ps ts') fun S2 => Ke ev S2
theorem s_kExc {ms : List Md} {ts : List T} {ev : Ev} : kExc S ms ps Ke ev ts = (optK (back S ms ps ts) fun S2 => Ke ev S2) := by first | exact propext Iff.rfl | rfl
def kCall (n : Nat) (C : Con) (ms : List Md) (K : KP) (Ke : KE) : List P → List T → Prop := fun ps S1 => ps.length = n ∧ wCal C ms S1 ps K Ke
theorem s_call {n : Nat} {C : Con} {ms : List Md} : wCall n C ms fa S K Ke = fa S (kCall n C ms K Ke) Ke := by first | exact propext Iff.rfl | rfl
theorem s_kCall {n : Nat} {C : Con} {ms : List Md} : kCall n C ms K Ke ps S = (ps.length = n ∧ wCal C ms S ps K Ke) := by first | exact propext Iff.rfl | rfl
theorem s_cal {C : Con} {ms : List Md} : wCal C ms S ps K Ke = (callB S ms ps = true ∧ C (args S ms ps) (kRet S ms ps K) (kExc S ms ps Ke)) := by first | exact propext Iff.rfl | rfl
/-! ### methods of built-in things -/
def kBM (ty : D → Prop) (g : OM) (fa : WA) (K : KP) (Ke : KE) : KP := fun p S1 => ty (pk S1 p) ∧ fa S1 (fun ps S2 => okAt p S1 S2 ∧ g S2 p ps K) Ke
def kBM' (g : OM) (p : P) (S1 : List T) (K : KP) : List P → List T → Prop := fun ps S2 => okAt p S1 S2 ∧ g S2 p ps K
theorem s_bm {ty : D → Prop} {g : OM} : wBM ty g f fa S K Ke = f S (kBM ty g fa K Ke) Ke := by first | exact propext Iff.rfl | rfl
theorem s_kBM {ty : D → Prop} {g : OM} : kBM ty g fa K Ke p S = (ty (pk S p) ∧ fa S (kBM' g p S K) Ke) := by first | exact propext Iff.rfl | rfl
theorem s_kBM' {g : OM} : kBM' g p S1 K ps S2 = (okAt p S1 S2 ∧ g S2 p ps K) := by first | exact propext Iff.rfl | rfl
/-! ### statements -/
def kSeq (b : WS) (k : KS) : KS := { k with nx := fun S' => b S' k }
theorem s_seq : wSeq a b S k = a S (kSeq b k) := by first | exact propext Iff.rfl | rfl
theorem s_seq_nx : (kSeq b k).nx S = b S k := by first | exact propext Iff.rfl | rfl
theorem s_seq_rt : (kSeq b k).rt = k.rt := by first | exact propext Iff.rfl | rfl
theorem s_seq_bk : (kSeq b k).bk = k.bk := by first | exact propext Iff.rfl | rfl
theorem s_seq_ct : (kSeq b k).ct = k.ct := by first | exact propext Iff.rfl | rfl
theorem s_seq_ex : (kSeq b k).ex = k.ex := by first | exact propext Iff.rfl | rfl
theorem s_skip : wSkip S k = k.nx S := by first | exact propext Iff.rfl | rfl
theorem s_brk : wBrk S k = k.bk S := by first | exact propext Iff.rfl | rfl
theorem s_cnt : wCnt S k = k.ct S := by first | exact propext Iff.rfl | rfl
theorem s_ret : wRet f S k = f S k.rt k.ex := by first | exact propext Iff.rfl | rfl
theorem s_retN : wRetN S k = k.rt (.sh .non) S := by first | exact propext Iff.rfl | rfl
def kAsg (g : WG) (J : List T → Prop) : KP := fun p S1 => g p S1 J
theorem s_asg {g : WG} : wAsg f g S k = f S (kAsg g k.nx) k.ex := by first | exact propext Iff.rfl | rfl
theorem s_kAsg {g : WG} {J : List T → Prop} : kAsg g J p S = g p S J := by first | exact propext Iff.rfl | rfl
def kDrop (J : List T → Prop) : KP := fun _ S1 => J S1
theorem s_drop : wDrop f S k = f S (kDrop k.nx) k.ex := by first | exact propext Iff.rfl | rfl
theorem s_kDrop {J : List T → Prop} : kDrop J p S = J S := by first | exact propext Iff.rfl | rfl
def kIf (a b : WS) (k : KS) : Bool → List T → Prop := fun c S1 => if c = true then a S1 k else b S1 k
theorem s_if : wIf t a b S k = t S (kIf a b k) k.ex := by first | exact propext Iff.rfl | rfl
theorem s_kIf_t : kIf a b k true S = a S k := by first | exact propext Iff.rfl | rfl
theorem s_kIf_f : kIf a b k false S = b S k := by first | exact propext Iff.rfl | rfl
theorem s_sto_sh {i : Nat} {d : D} {J : List T → Prop} : sto i (.sh d) S J = J (S.set i (.sh d)) := by first | exact propext Iff.rfl | rfl
theorem s_sto_br {i : Nat} {d : D} {J : List T → Prop} : sto i (.br d) S J = J (S.set i (.br d)) := by first | exact propext Iff.rfl | rfl
theorem s_sto_ow {i : Nat} {x : T} {J : List T → Prop} : sto i (.ow x) S J = J (S.set i x) := by first | exact propext Iff.rfl | rfl
def kStI1 (fo fi : WE) (k : KS) : KP := fun x S1 => fo S1 (fun p S2 => okAt x S1 S2 ∧ fi S2 (fun r S3 => okAt x S2 S3 ∧ okAt p S2 S3 ∧ goes x = true ∧ atL S3 p fun i q a ts => match pk S3 r with
  | .int n => optK (ixN ts.length n) fun j => optK (putN S3 i q (.lst a (ts.set j (pT x)))) k.nx
  | _ => False) k.ex) k.ex
def kStI2 (fi : WE) (x : P) (S1 : List T) (k : KS) : KP := fun p S2 => okAt x S1 S2 ∧ fi S2 (fun r S3 => okAt x S2 S3 ∧ okAt p S2 S3 ∧ goes x = true ∧ atL S3 p fun i q a ts => match pk S3 r with
  | .int n => optK (ixN ts.length n) fun j => optK (putN S3 i q (.lst a (ts.set j (pT x)))) k.nx
  | _ => False) k.ex
def kStI3 (x p : P) (S2 : List T) (J : List T → Prop) : KP := fun r S3 => okAt x S2 S3 ∧ okAt p S2 S3 ∧ goes x = true ∧ atL S3 p fun i q a ts => match pk S3 r with
  | .int n => optK (ixN ts.length n) fun j => optK (putN S3 i q (.lst a (ts.set j (pT x)))) J
  | _ => False
theorem s_stI : wStI f g h S k = f S (kStI1 g h k) k.ex := by first | exact propext Iff.rfl | rfl
theorem s_kStI1 : kStI1 g h k p S = g S (kStI2 h p S k) k.ex := by first | exact propext Iff.rfl | rfl
theorem s_kStI2 : kStI2 h p S1 k q S2 = (okAt p S1 S2 ∧ h S2 (kStI3 p q S2 k.nx) k.ex) := by first | exact propext Iff.rfl | rfl
theorem s_kStI3 {J : List T → Prop} {n : Int} : kStI3 p q S2 J (.sh (.int n)) S3 = (okAt p S2 S3 ∧ okAt q S2 S3 ∧ goes p = true ∧ atL S3 q fun i r a ts => optK (ixN ts.length n) fun j => optK (putN S3 i r (.lst a (ts.set j (pT p)))) J) := by first | exact propext Iff.rfl | rfl
def kAug1 (g : O2) (f : WE) (i : Nat) (k : KS) : KP := fun p S1 => f S1 (fun q S2 => okAt p S1 S2 ∧ g S2 p q fun r S3 => sto i r S3 k.nx) k.ex
def kAug2 (g : O2) (i : Nat) (p : P) (S1 : List T) (J : List T → Prop) : KP := fun q S2 => okAt p S1 S2 ∧ g S2 p q fun r S3 => sto i r S3 J
theorem s_augN {i : Nat} {g : O2} : wAugN i g f S k = wVar i S (kAug1 g f i k) k.ex := by first | exact propext Iff.rfl | rfl
theorem s_kAug1 {i : Nat} {g : O2} : kAug1 g f i k p S = f S (kAug2 g i p S k.nx) k.ex := by first | exact propext Iff.rfl | rfl
theorem s_kAug2 {i : Nat} {g : O2} {J : List T → Prop} : kAug2 g i p S1 J q S2 = (okAt p S1 S2 ∧ g S2 p q (kAsg (sto i) J)) := by first | exact propext Iff.rfl | rfl
/-! ### loops -/
def kFor (g : WG) (body : WS) (k : KS) : List Itm → List T → Prop := lup g body k
theorem s_for {fi : WI} {g : WG} {body : WS} : wFor fi g body S k = fi S (kFor g body k) k.ex := by first | exact propext Iff.rfl | rfl
def kLup (J : List T → Prop) (k : KS) : KS := { k with nx := J, ct := J, bk := k.nx }
theorem s_lup_nx {J : List T → Prop} : (kLup J k).nx = J := by first | exact propext Iff.rfl | rfl
theorem s_lup_ct {J : List T → Prop} : (kLup J k).ct = J := by first | exact propext Iff.rfl | rfl
theorem s_lup_bk {J : List T → Prop} : (kLup J k).bk = k.nx := by first | exact propext Iff.rfl | rfl
theorem s_lup_rt {J : List T → Prop} : (kLup J k).rt = k.rt := by first | exact propext Iff.rfl | rfl
theorem s_lup_ex {J : List T → Prop} : (kLup J k).ex = k.ex := by first | exact propext Iff.rfl | rfl
def kItm (body : WS) (k : KS) : List T → Prop := fun S1 => body S1 k
theorem s_kItm {body : WS} : kItm body k S = body S k := by first | exact propext Iff.rfl | rfl
theorem s_itm {g : WG} {J : List T → Prop} : itm g (.one p) S J = g p S J := by first | exact propext Iff.rfl | rfl
/-- a loop by what holds ahead of its i-th pass -/
theorem lup_its {g : WG} {body : WS} : ∀ {its : List Itm} {S : List T} (I : Nat → List T → Prop), I 0 S → (∀ i it J S, its[i]? = some it → (∀ S', I (i + 1) S' → J S') → I i S → itm g it S (kItm body (kLup J k))) → (∀ S, I its.length S → k.nx S) → kFor g body k its S := by
  intro its
  unfold kFor
  induction its with
  | nil => intro S I h0 hs hn; exact hn S h0
  | cons it its ih =>
    intro S I h0 hs hn
    exact hs 0 it (lup g body k its) S rfl (fun S' h' => ih (fun i => I (i + 1)) h' (fun i it J S e hJ h => hs (i + 1) it J S (by simpa using e) hJ h) hn) h0
theorem get_range {lo : Int} {n i : Nat} {it : Itm} (e : ((rangeI lo n).map oneI)[i]? = some it) : i < n ∧ it = oneI (lo + i) := by
  rw [List.getElem?_map] at e
  cases e2 : (rangeI lo n)[i]? with
  | none => rw [e2] at e; cases e
  | some x =>
    rw [e2] at e
    unfold rangeI at e2
    rw [List.getElem?_map] at e2
    cases e3 : (List.range n)[i]? with
    | none => rw [e3] at e2; cases e2
    | some y =>
      rw [e3] at e2
      obtain ⟨h1, h2⟩ := List.getElem?_eq_some_iff.mp e3
      rw [List.getElem_range] at h2
      rw [List.length_range] at h1
      subst h2
      cases e2; cases e; exact ⟨h1, rfl⟩
theorem len_range {lo : Int} {n : Nat} : ((rangeI lo n).map oneI).length = n := by simp [rangeI]
theorem lup_rng {g : WG} {body : WS} {lo : Int} {n : Nat} (I : Nat → List T → Prop) (h0 : I 0 S) (hs : ∀ i J S, i < n → (∀ S', I (i + 1) S' → J S') → I i S → g (.sh (.int (lo + i))) S (kItm body (kLup J k))) (hn : ∀ S, I n S → k.nx S) : kFor g body k ((rangeI lo n).map oneI) S := by
  refine lup_its I h0 (fun i it J S e hJ h => ?_) (by rw [len_range]; exact hn)
  obtain ⟨h1, rfl⟩ := get_range e
  exact hs i J S h1 hJ h
def kR1 (KI : List Itm → List T → Prop) : List P → List T → Prop := fun ps S1 => match ps with
  | [p] => match pk S1 p with
    | .int j => -(2 ^ 62) ≤ j ∧ j < 2 ^ 62 ∧ KI ((rangeI 0 j.toNat).map oneI) S1
    | _ => False
  | _ => False
theorem s_range1 {KI : List Itm → List T → Prop} : wRange1 fa S KI Ke = fa S (kR1 KI) Ke := by first | exact propext Iff.rfl | rfl
theorem s_kR1 {KI : List Itm → List T → Prop} {j : Int} : kR1 KI [.sh (.int j)] S = (-(2 ^ 62) ≤ j ∧ j < 2 ^ 62 ∧ KI ((rangeI 0 j.toNat).map oneI) S) := by first | exact propext Iff.rfl | rfl
def kR2 (KI : List Itm → List T → Prop) : List P → List T → Prop := fun ps S1 => match ps with
  | [p, q] => match pk S1 p, pk S1 q with
    | .int i, .int j => (-(2 ^ 62) ≤ i ∧ i < 2 ^ 62 ∧ -(2 ^ 62) ≤ j ∧ j < 2 ^ 62) ∧ KI ((rangeI i (j - i).toNat).map oneI) S1
    | _, _ => False
  | _ => False
theorem s_range2 {KI : List Itm → List T → Prop} : wRange2 fa S KI Ke = fa S (kR2 KI) Ke := by first | exact propext Iff.rfl | rfl
theorem s_kR2 {KI : List Itm → List T → Prop} {i j : Int} : kR2 KI [.sh (.int i), .sh (.int j)] S = ((-(2 ^ 62) ≤ i ∧ i < 2 ^ 62 ∧ -(2 ^ 62) ≤ j ∧ j < 2 ^ 62) ∧ KI ((rangeI i (j - i).toNat).map oneI) S) := by first | exact propext Iff.rfl | rfl
def kWh (body : WS) (J : List T → Prop) (k : KS) : Bool → List T → Prop := fun b S1 => if b = true then body S1 (kLup J k) else k.nx S1
theorem s_kWh_t {body : WS} {J : List T → Prop} : kWh body J k true S = body S (kLup J k) := by first | exact propext Iff.rfl | rfl
theorem s_kWh_f {body : WS} {J : List T → Prop} : kWh body J k false S = k.nx S := by first | exact propext Iff.rfl | rfl
/-- a while by what holds and a number that falls -/
theorem whl {body : WS} (I : Nat → List T → Prop) (m : Nat) (h0 : I m S) (hs : ∀ m J S, (∀ m' S', m' < m → I m' S' → J S') → I m S → t S (kWh body J k) k.ex) : wWhile t body S k :=
  ⟨I, ⟨m, h0⟩, fun m S h => hs m _ S (fun m' _ hm h' => ⟨m', hm, h'⟩) h⟩
/-! ### comprehensions -/
def kLcF (own : List Nat) (acc : List T) (J : List T → List T → Prop) : KP := fun p S3 => acc.length < 1000000 ∧ J (acc ++ [pT p]) (fgt own S3)
theorem s_kLcF {own : List Nat} {acc : List T} {J : List T → List T → Prop} : kLcF own acc J p S = (acc.length < 1000000 ∧ J (acc ++ [pT p]) (fgt own S)) := by first | exact propext Iff.rfl | rfl
def kLcT (own : List Nat) (f : WE) (acc : List T) (J : List T → List T → Prop) : Bool → List T → Prop := fun b S2 => if b = true then f S2 (kLcF own acc J) noEx else J acc (fgt own S2)
theorem s_kLcT_t {own : List Nat} {acc : List T} {J : List T → List T → Prop} : kLcT own f acc J true S = f S (kLcF own acc J) noEx := by first | exact propext Iff.rfl | rfl
theorem s_kLcT_f {own : List Nat} {acc : List T} {J : List T → List T → Prop} : kLcT own f acc J false S = J acc (fgt own S) := by first | exact propext Iff.rfl | rfl
def kLcG (own : List Nat) (t : WT) (f : WE) (acc : List T) (J : List T → List T → Prop) : List T → Prop := fun S1 => t S1 (kLcT own f acc J) noEx
theorem s_kLcG {own : List Nat} {acc : List T} {J : List T → List T → Prop} : kLcG own t f acc J S = t S (kLcT own f acc J) noEx := by first | exact propext Iff.rfl | rfl
def kLcD (K : KP) : List T → List T → Prop := fun ts S2 => ∀ a, K (.ow (.lst a ts)) S2
theorem s_kLcD {ts : List T} : kLcD K ts S = ∀ a, K (.ow (.lst a ts)) S := by first | exact propext Iff.rfl | rfl
def kLc (own : List Nat) (g : WG) (t : WT) (f : WE) (K : KP) : List Itm → List T → Prop := fun its S1 => lcl own g t f its (fgt own S1) [] (kLcD K)
theorem s_lc {fi : WI} {own : List Nat} {g : WG} : wLc fi own g t f S K Ke = fi S (kLc own g t f K) Ke := by first | exact propext Iff.rfl | rfl
theorem lcl_its {own : List Nat} {g : WG} {M : List T → List T → Prop} : ∀ {its : List Itm} {S acc : List T} (I : Nat → List T → List T → Prop), I 0 acc S → (∀ i it J acc S, its[i]? = some it → (∀ acc' S', I (i + 1) acc' S' → J acc' S') → I i acc S → itm g it S (kLcG own t f acc J)) → (∀ acc S, I its.length acc S → M acc S) → lcl own g t f its S acc M := by
  intro its
  induction its with
  | nil => intro S acc I h0 hs hn; exact hn acc S h0
  | cons it its ih =>
    intro S acc I h0 hs hn
    exact hs 0 it (fun acc' S' => lcl own g t f its S' acc' M) acc S rfl (fun acc' S' h' => ih (fun i => I (i + 1)) h' (fun i it J acc S e hJ h => hs (i + 1) it J acc S (by simpa using e) hJ h) hn) h0
theorem lc_its {own : List Nat} {g : WG} {its : List Itm} (I : Nat → List T → List T → Prop) (h0 : I 0 [] (fgt own S)) (hs : ∀ i it J acc S, its[i]? = some it → (∀ acc' S', I (i + 1) acc' S' → J acc' S') → I i acc S → itm g it S (kLcG own t f acc J)) (hn : ∀ acc S a, I its.length acc S → K (.ow (.lst a acc)) S) : kLc own g t f K its S :=
  lcl_its I h0 hs fun acc S h a => hn acc S a h
theorem lc_rng {own : List Nat} {g : WG} {lo : Int} {n : Nat} (I : Nat → List T → List T → Prop) (h0 : I 0 [] (fgt own S)) (hs : ∀ i J acc S, i < n → (∀ acc' S', I (i + 1) acc' S' → J acc' S') → I i acc S → g (.sh (.int (lo + i))) S (kLcG own t f acc J)) (hn : ∀ acc S a, I n acc S → K (.ow (.lst a acc)) S) : kLc own g t f K ((rangeI lo n).map oneI) S := by
  refine lc_its I h0 (fun i it J acc S e hJ h => ?_) (by rw [len_range]; exact hn)
  obtain ⟨h1, rfl⟩ := get_range e
  exact hs i J acc S h1 hJ h
end
end SL

set_option Elab.async false
set_option linter.all false
set_option maxRecDepth 100000
set_option maxHeartbeats 4000000
/-! SL23: the operators stepped, shape by shape. -/
namespace SL
open PySem PySem.Spec PyProof.Rows L2
theorem okS {d : D} {S S' : List T} : okAt (.sh d) S S' = True := rfl
theorem okB {d : D} {S S' : List T} : okAt (.br d) S S' = True := rfl
theorem okO {t : T} {S S' : List T} : okAt (.ow t) S S' = True := rfl
theorem okA {i : Nat} {q : List Nat} {S S' : List T} : okAt (.at i q) S S' = ((node S' i q).bind adr = (node S i q).bind adr) := rfl
theorem leaf_ish (ns : List Int) : (ish ns).all leaf = true := by simp [ish, leaf]
theorem len_ish (ns : List Int) : (ish ns).length = ns.length := by simp [ish]
theorem get_ish (ns : List Int) (j : Nat) : (ish ns)[j]? = (ns[j]?).map fun i => T.sh (.int i) := by simp [ish]
section
variable {S S' S1 S2 S3 : List T} {K : KP} {Ke : KE} {p q r : P} {ps : List P} {i j : Int} {k : Nat} {w : List Nat}
theorem s_opt {α : Type} {x : α} {J : α → Prop} : optK (some x) J = J x := by first | exact propext Iff.rfl | rfl
theorem s_optN {α : Type} {J : α → Prop} : optK (none : Option α) J = False := by first | exact propext Iff.rfl | rfl
def kAt (K : KP) (S : List T) : P → Prop := fun p => K p S
theorem s_kAt : kAt K S p = K p S := by first | exact propext Iff.rfl | rfl
def kSh (K : KP) (S : List T) : D → Prop := fun d => K (.sh d) S
theorem s_kSh {d : D} : kSh K S d = K (.sh d) S := by first | exact propext Iff.rfl | rfl
def kBl (K : KP) (S : List T) : Bool → Prop := fun b => K (.sh (.bl b)) S
theorem s_kBl {b : Bool} : kBl K S b = K (.sh (.bl b)) S := by first | exact propext Iff.rfl | rfl
theorem optK_bind {α β : Type} {o : Option α} {f : α → Option β} {J : β → Prop} : (optK o fun x => optK (f x) J) = optK (o.bind f) J := by cases o <;> rfl
/-! places -/
theorem s_pk_sh {d : D} : pk S (.sh d) = d := by first | exact propext Iff.rfl | rfl
theorem s_pk_br {d : D} : pk S (.br d) = d := by first | exact propext Iff.rfl | rfl
theorem s_pk_ow {t : T} : pk S (.ow t) = toD t := by first | exact propext Iff.rfl | rfl
def pkT : Option T → D
  | some t => toD t
  | none => .bad
theorem s_pk_at : pk S (.at k w) = pkT (node S k w) := by unfold pk pkT; rfl
theorem s_pkT {t : T} : pkT (some t) = toD t := by first | exact propext Iff.rfl | rfl
theorem s_toD_sh {d : D} : toD (.sh d) = d := by simp [toD]
theorem s_toD_br {d : D} : toD (.br d) = d := by simp [toD]
theorem s_toD_lst {a : Addr} {ts : List T} : toD (.lst a ts) = .lst (ts.map toD) := by simp [toD, toDs_map]
theorem s_toD_ins {a c : Addr} {ns : List Str} {ts : List T} : toD (.ins a c ns ts) = .ins c ns (ts.map toD) := by simp [toD, toDs_map]
/-! items -/
def itemT (S : List T) (K : KP) (k : Nat) (w : List Nat) (j : Int) : Option T → Prop
  | some (.lst _ ts) => optK ((ixN ts.length j).bind fun n => (ts[n]?).bind (cP k w n)) (kAt K S)
  | _ => wItem S (.at k w) (.sh (.int j)) K
theorem s_item_at : wItem S (.at k w) (.sh (.int j)) K = itemT S K k w j (node S k w) := by
  unfold itemT
  split
  · rename_i h
    unfold wItem wIx
    simp only [pk, h, toD]
    cases ixN _ j with
    | none => rfl
    | some n =>
      show (optK _ fun t => optK (cP k w n t) fun p' => K p' S) = _
      exact optK_bind
  · rfl
theorem s_itemT {a : Addr} {ts : List T} : itemT S K k w j (some (.lst a ts)) = optK ((ixN ts.length j).bind fun n => (ts[n]?).bind (cP k w n)) (kAt K S) := by first | exact propext Iff.rfl | rfl
theorem s_item_st {ds : List D} : wItem S (.sh (.tup ds)) (.sh (.int j)) K = optK (atI ds j) (kSh K S) := by first | exact propext Iff.rfl | rfl
theorem s_item_sl {ds : List D} : wItem S (.sh (.lst ds)) (.sh (.int j)) K = optK (atI ds j) (kSh K S) := by first | exact propext Iff.rfl | rfl
theorem s_item_ss {z : Str} : wItem S (.sh (.str z)) (.sh (.int j)) K = (z.length ≤ 1000000 ∧ optK ((atI z.cps.toList j).map fun c => D.str ⟨#[c]⟩) (kSh K S)) := by
  unfold wItem
  simp only [pk]
  cases atI z.cps.toList j <;> rfl
theorem s_item_bt {ds : List D} : wItem S (.br (.tup ds)) (.sh (.int j)) K = optK ((atI ds j).map brP) (kAt K S) := by
  show (optK (atI ds j) fun d => K (brP d) S) = _
  cases atI ds j <;> rfl
theorem s_item_bl {ds : List D} : wItem S (.br (.lst ds)) (.sh (.int j)) K = optK ((atI ds j).map brP) (kAt K S) := by
  show (optK (atI ds j) fun d => K (brP d) S) = _
  cases atI ds j <;> rfl
theorem s_item_ow {a : Addr} {ts : List T} : wItem S (.ow (.lst a ts)) (.sh (.int j)) K = optK ((atI ts j).bind tP) (kAt K S) := by
  unfold wItem
  simp only [pk, toD]
  show (optK (atI ts j) fun t => optK (tP t) fun p' => K p' S) = _
  exact optK_bind
/-! ints -/
theorem s_i0 {z : Int → Int → D} : wI0 z S (.sh (.int i)) (.sh (.int j)) K = K (.sh (z i j)) S := by first | exact propext Iff.rfl | rfl
theorem s_i {C : Int → Int → Prop} {z : Int → Int → D} : wI C z S (.sh (.int i)) (.sh (.int j)) K = (C i j ∧ K (.sh (z i j)) S) := by first | exact propext Iff.rfl | rfl
theorem s_neg : wNeg S (.sh (.int i)) K = K (.sh (.int (-i))) S := by first | exact propext Iff.rfl | rfl
theorem s_plus : wPlus S (.sh (.int i)) (.sh (.int j)) K = K (.sh (.int (i + j))) S := by first | exact propext Iff.rfl | rfl
theorem s_plus_s {x y : Str} : wPlus S (.sh (.str x)) (.sh (.str y)) K = (x.length + y.length ≤ 1000000 ∧ K (.sh (.str (x ++ y))) S) := by first | exact propext Iff.rfl | rfl
theorem s_plus_t {xs ys : List D} : wPlus S (.sh (.tup xs)) (.sh (.tup ys)) K = (xs.length + ys.length ≤ 1000000 ∧ K (.sh (.tup (xs ++ ys))) S) := by first | exact propext Iff.rfl | rfl
theorem s_plus_oo {a b : Addr} {ts us : List T} : wPlus S (.ow (.lst a ts)) (.ow (.lst b us)) K = (ts.length + us.length ≤ 1000000 ∧ ∀ c, K (.ow (.lst c (ts ++ us))) S) := by
  unfold wPlus
  simp only [pk, toD]
  rfl
def plusT (S : List T) (K : KP) (k : Nat) (w : List Nat) (us : List T) (b : Addr) : Option T → Prop
  | some (.lst _ ts) => if ts.all leaf = true then ts.length + us.length ≤ 1000000 ∧ ∀ c, K (.ow (.lst c (ts ++ us))) S else False
  | _ => wPlus S (.at k w) (.ow (.lst b us)) K
theorem s_plus_ao {b : Addr} {us : List T} : wPlus S (.at k w) (.ow (.lst b us)) K = plusT S K k w us b (node S k w) := by
  unfold plusT
  split
  · rename_i h
    unfold wPlus
    simp only [pk, h, toD, rowM, kids]
    split <;> rfl
  · rfl
theorem s_plusT {a b : Addr} {ts us : List T} : plusT S K k w us b (some (.lst a ts)) = if ts.all leaf = true then ts.length + us.length ≤ 1000000 ∧ ∀ c, K (.ow (.lst c (ts ++ us))) S else False := by first | exact propext Iff.rfl | rfl
theorem s_times : wTimes S (.sh (.int i)) (.sh (.int j)) K = (MulC i j ∧ K (.sh (.int (i * j))) S) := by first | exact propext Iff.rfl | rfl
/-! == and is -/
theorem s_eq : wEq S p q K = (eqOk 40 (pk S p) = true ∧ eqOk 40 (pk S q) = true ∧ K (.sh (.bl ((pk S p).eqv (pk S q)))) S) := by first | exact propext Iff.rfl | rfl
theorem s_ne : wNe S p q K = (eqOk 40 (pk S p) = true ∧ eqOk 40 (pk S q) = true ∧ K (.sh (.bl (!(pk S p).eqv (pk S q)))) S) := by first | exact propext Iff.rfl | rfl
theorem s_eqOk_i {n : Nat} : eqOk n (.int i) = true := by unfold eqOk; cases n <;> rfl
theorem s_eqOk_b {n : Nat} {b : Bool} : eqOk n (.bl b) = true := by unfold eqOk; cases n <;> rfl
theorem s_eqOk_n {n : Nat} : eqOk n .non = true := by unfold eqOk; cases n <;> rfl
theorem s_eqv_i : (D.int i).eqv (.int j) = decide (i = j) := by
  have : (i == j) = decide (i = j) := by by_cases h : i = j <;> simp [h]
  simpa [D.eqv, D.py, PyData.eqv] using this
theorem s_isN {neg : Bool} : wIsN neg S p K = (notBad (pk S p) = true ∧ K (.sh (.bl (if neg then !isNon (pk S p) else isNon (pk S p)))) S) := by first | exact propext Iff.rfl | rfl
/-! built-in functions -/
def lenT (S : List T) (K : KP) (k : Nat) (w : List Nat) : Option T → Prop
  | some (.lst _ ts) => K (.sh (.int ts.length)) S
  | _ => wLen S [.at k w] K
theorem s_len_at : wLen S [.at k w] K = lenT S K k w (node S k w) := by
  unfold lenT
  split
  · rename_i h
    unfold wLen
    simp only [pk, h, toD, kids]
    rfl
  · rfl
theorem s_lenT {a : Addr} {ts : List T} : lenT S K k w (some (.lst a ts)) = K (.sh (.int ts.length)) S := by first | exact propext Iff.rfl | rfl
theorem s_len_ow {a : Addr} {ts : List T} : wLen S [.ow (.lst a ts)] K = K (.sh (.int ts.length)) S := by
  unfold wLen
  simp only [pk, toD, kids]
  rfl
theorem s_len_s {x : Str} : wLen S [.sh (.str x)] K = (x.length ≤ 1000000 ∧ K (.sh (.int x.length)) S) := by first | exact propext Iff.rfl | rfl
theorem s_len_st {ds : List D} : wLen S [.sh (.tup ds)] K = K (.sh (.int ds.length)) S := by
  unfold wLen; simp only [pk, kids, optK, List.length_map]
theorem s_len_sl {ds : List D} : wLen S [.sh (.lst ds)] K = K (.sh (.int ds.length)) S := by
  unfold wLen; simp only [pk, kids, optK, List.length_map]
theorem s_len_sq {ds : List D} : wLen S [.sh (.sq ds)] K = K (.sh (.int ds.length)) S := by
  unfold wLen; simp only [pk, kids, optK, List.length_map]
theorem s_len_bt {ds : List D} : wLen S [.br (.tup ds)] K = K (.sh (.int ds.length)) S := by
  unfold wLen; simp only [pk, kids, optK, List.length_map]
theorem s_len_bl {ds : List D} : wLen S [.br (.lst ds)] K = K (.sh (.int ds.length)) S := by
  unfold wLen; simp only [pk, kids, optK, List.length_map]
theorem leaf_shs {ds : List D} : (ds.map T.sh).all leaf = true := by simp [leaf]
theorem leaf_brs {ds : List D} : (ds.map brT).all leaf = true := by
  simp only [List.all_map, List.all_eq_true, Function.comp]
  intro d _; unfold brT; split <;> rfl
theorem s_listOf_sq {ds : List D} : wListOf S [.sh (.sq ds)] K = ∀ a, K (.ow (.lst a (ds.map .sh))) S := by
  unfold wListOf; simp only [kids, optK, leaf_shs, true_and]
theorem s_listOf_st {ds : List D} : wListOf S [.sh (.tup ds)] K = ∀ a, K (.ow (.lst a (ds.map .sh))) S := by
  unfold wListOf; simp only [kids, optK, leaf_shs, true_and]
theorem s_listOf_bt {ds : List D} : wListOf S [.br (.tup ds)] K = ∀ a, K (.ow (.lst a (ds.map brT))) S := by
  unfold wListOf; simp only [kids, optK, leaf_brs, true_and]
theorem s_listOf_bl {ds : List D} : wListOf S [.br (.lst ds)] K = ∀ a, K (.ow (.lst a (ds.map brT))) S := by
  unfold wListOf; simp only [kids, optK, leaf_brs, true_and]
theorem s_tupOf_ow {a : Addr} {ts : List T} : wTupOf S [.ow (.lst a ts)] K = optK ((tDs ts).map D.tup) (kSh K S) := by
  unfold wTupOf
  simp only [kids]
  show (optK (tDs ts) fun ds => K (.sh (.tup ds)) S) = _
  cases tDs ts <;> rfl
theorem s_abs : wAbs S [.sh (.int i)] K = K (.sh (.int (if i < 0 then -i else i))) S := by first | exact propext Iff.rfl | rfl
theorem s_intOf : wIntOf S [.sh (.int i)] K = K (.sh (.int i)) S := by first | exact propext Iff.rfl | rfl
theorem s_min2 : wMin2 S [.sh (.int i), .sh (.int j)] K = K (.sh (.int (min i j))) S := by first | exact propext Iff.rfl | rfl
theorem s_max2 : wMax2 S [.sh (.int i), .sh (.int j)] K = K (.sh (.int (max i j))) S := by first | exact propext Iff.rfl | rfl
def kMv (K : KP) : T × List T → Prop := fun x => K (.ow x.1) x.2
/-! places of lists -/
def atLT (k : Nat) (w : List Nat) (J : Nat → List Nat → Addr → List T → Prop) : Option T → Prop
  | some (.lst a ts) => J k w a ts
  | _ => False
theorem s_atL {J : Nat → List Nat → Addr → List T → Prop} : atL S (.at k w) J = atLT k w J (node S k w) := by
  unfold atL atLT; rfl
theorem s_atLT {J : Nat → List Nat → Addr → List T → Prop} {a : Addr} {ts : List T} : atLT k w J (some (.lst a ts)) = J k w a ts := by first | exact propext Iff.rfl | rfl
theorem s_stI3 {J : List T → Prop} {n : Int} : kStI3 p (.at k w) S2 J (.sh (.int n)) S3 = (okAt p S2 S3 ∧ okAt (.at k w) S2 S3 ∧ goes p = true ∧ atLT k w (fun i r a ts => optK ((ixN ts.length n).bind fun j => putN S3 i r (.lst a (ts.set j (pT p)))) J) (node S3 k w)) := by
  rw [s_kStI3, s_atL]
  simp only [optK_bind]
theorem s_mov_at : mov (.at k w) S K = optK ((node S k w).bind fun t => (putN S k w .un).map fun S' => (t, S')) (kMv K) := by
  show (optK (node S k w) fun t => optK (putN S k w .un) fun S' => K (.ow t) S') = _
  cases node S k w with
  | none => rfl
  | some t => cases h : putN S k w .un <;> simp [optK, h, kMv]
theorem s_mov_sh {d : D} : mov (.sh d) S K = K (.sh d) S := by first | exact propext Iff.rfl | rfl
theorem s_mov_br {d : D} : mov (.br d) S K = K (.br d) S := by first | exact propext Iff.rfl | rfl
theorem s_mov_ow {t : T} : mov (.ow t) S K = K (.ow t) S := by first | exact propext Iff.rfl | rfl
theorem s_kMv {x : T × List T} : kMv K x = K (.ow x.1) x.2 := by first | exact propext Iff.rfl | rfl
theorem s_isi' {T' : String} : kIsi T' K p S = optK ((tyD (pk S p)).bind fun t => kitB t T') (kBl K S) := by
  rw [s_kIsi]; exact optK_bind
theorem s_ret' {ms : List Md} {ts : List T} : kRet S ms ps K p ts = (rOk p = true ∧ optK (back S ms ps ts) (K p)) := by first | exact propext Iff.rfl | rfl
theorem s_exc' {ms : List Md} {ts : List T} {ev : Ev} : kExc S ms ps Ke ev ts = (optK (back S ms ps ts) (Ke ev)) := by first | exact propext Iff.rfl | rfl
theorem s_tup' : kTup K ps S = (ps.length ≤ 1000 ∧ optK ((shDs ps).map D.tup) (kSh K S)) := by
  rw [s_kTup]
  cases shDs ps <;> rfl
theorem s_back1 {ms : List Md} {ts : List T} (e : ios 0 ms ps = []) : back S ms ps ts = some S := by unfold back; rw [e]
end
theorem s_kit_int_int : kitB "int" "int" = some true := by decide +kernel
theorem s_kit_int_bool : kitB "int" "bool" = some false := by decide +kernel
theorem s_kit_int_str : kitB "int" "str" = some false := by decide +kernel
theorem s_kit_int_list : kitB "int" "list" = some false := by decide +kernel
theorem s_kit_int_tuple : kitB "int" "tuple" = some false := by decide +kernel
theorem s_kit_bool_int : kitB "bool" "int" = some true := by decide +kernel
theorem s_kit_bool_bool : kitB "bool" "bool" = some true := by decide +kernel
theorem s_kit_bool_str : kitB "bool" "str" = some false := by decide +kernel
theorem s_kit_bool_list : kitB "bool" "list" = some false := by decide +kernel
theorem s_kit_bool_tuple : kitB "bool" "tuple" = some false := by decide +kernel
theorem s_kit_str_int : kitB "str" "int" = some false := by decide +kernel
theorem s_kit_str_bool : kitB "str" "bool" = some false := by decide +kernel
theorem s_kit_str_str : kitB "str" "str" = some true := by decide +kernel
theorem s_kit_str_list : kitB "str" "list" = some false := by decide +kernel
theorem s_kit_str_tuple : kitB "str" "tuple" = some false := by decide +kernel
theorem s_kit_list_int : kitB "list" "int" = some false := by decide +kernel
theorem s_kit_list_bool : kitB "list" "bool" = some false := by decide +kernel
theorem s_kit_list_str : kitB "list" "str" = some false := by decide +kernel
theorem s_kit_list_list : kitB "list" "list" = some true := by decide +kernel
theorem s_kit_list_tuple : kitB "list" "tuple" = some false := by decide +kernel
theorem s_kit_tuple_int : kitB "tuple" "int" = some false := by decide +kernel
theorem s_kit_tuple_bool : kitB "tuple" "bool" = some false := by decide +kernel
theorem s_kit_tuple_str : kitB "tuple" "str" = some false := by decide +kernel
theorem s_kit_tuple_list : kitB "tuple" "list" = some false := by decide +kernel
theorem s_kit_tuple_tuple : kitB "tuple" "tuple" = some true := by decide +kernel
theorem s_kit_NoneType_int : kitB "NoneType" "int" = some false := by decide +kernel
theorem s_kit_NoneType_bool : kitB "NoneType" "bool" = some false := by decide +kernel
theorem s_kit_NoneType_str : kitB "NoneType" "str" = some false := by decide +kernel
theorem s_kit_NoneType_list : kitB "NoneType" "list" = some false := by decide +kernel
theorem s_kit_NoneType_tuple : kitB "NoneType" "tuple" = some false := by decide +kernel
theorem s_of_rt {ts : List T} {Kr : P → List T → Prop} {Kx : Ev → List T → Prop} {p : P} {S : List T} : (kOf ts Kr Kx).rt p S = (goes p = true ∧ Kr p (outs ts S)) := by first | exact propext Iff.rfl | rfl
theorem s_of_nx {ts : List T} {Kr : P → List T → Prop} {Kx : Ev → List T → Prop} {S : List T} : (kOf ts Kr Kx).nx S = Kr (.sh .non) (outs ts S) := by first | exact propext Iff.rfl | rfl
theorem s_of_ex {ts : List T} {Kr : P → List T → Prop} {Kx : Ev → List T → Prop} {ev : Ev} {S : List T} : (kOf ts Kr Kx).ex ev S = Kx ev (outs ts S) := by first | exact propext Iff.rfl | rfl
theorem s_c0 : ((0 : Nat) : Int) = 0 := by first | exact propext Iff.rfl | rfl
theorem s_c1 : ((1 : Nat) : Int) = 1 := by first | exact propext Iff.rfl | rfl
theorem s_cn {n : Nat} : ((OfNat.ofNat (n + 2) : Nat) : Int) = OfNat.ofNat (n + 2) := by first | exact propext Iff.rfl | rfl
theorem mulC_l {i j : Int} (a : -(2 ^ 64) < i) (b : i < 2 ^ 64) : MulC i j := .inl (.inl ⟨a, b⟩)
theorem mulC_r {i j : Int} (a : -(2 ^ 64) < j) (b : j < 2 ^ 64) : MulC i j := .inl (.inr ⟨a, b⟩)
theorem divC_of {x j : Int} (a : 0 < j) (b : j < 2 ^ 8000) : CDivW x j := ⟨a, by
  have h1 : j.natAbs ≠ 0 := by omega
  rw [Nat.log2_lt h1]
  have h2 : (j.natAbs : Int) = j := Int.natAbs_of_nonneg (Int.le_of_lt a)
  have h3 : (j.natAbs : Int) < ((2 ^ 8000 : Nat) : Int) := by rw [h2]; exact b
  exact Nat.lt_of_lt_of_le (Int.ofNat_lt.mp h3) (Nat.pow_le_pow_right (by decide) (by decide))⟩
theorem ixN_in {n : Nat} {i : Int} (a : 0 ≤ i) (b : i < n) : (if 0 ≤ i then if i < (n : Int) then some i.toNat else none else if -(n : Int) ≤ i then some (i + (n : Int)).toNat else none) = some i.toNat := by rw [if_pos a, if_pos b]
end SL

set_option Elab.async false
set_option linter.all false
set_option maxRecDepth 100000
set_option maxHeartbeats 4000000
/-! SL24: names, equality of kinds. -/
namespace SL
open PySem PySem.Spec PyProof.Rows L2
section
variable {S S' S1 S2 S3 : List T} {K : KP} {Ke : KE} {p q r : P} {ps : List P} {i j : Int} {k : Nat} {w : List Nat}
def varT (i : Nat) (S : List T) (K : KP) : Option T → Prop
  | some (.sh d) => K (.sh d) S
  | some (.br d) => K (.br d) S
  | some .un => False
  | none => False
  | some _ => K (.at i []) S
theorem s_var {i : Nat} : wVar i S K Ke = varT i S K S[i]? := by unfold wVar varT; rfl
theorem s_varT_sh {i : Nat} {d : D} : varT i S K (some (.sh d)) = K (.sh d) S := by first | exact propext Iff.rfl | rfl
theorem s_varT_br {i : Nat} {d : D} : varT i S K (some (.br d)) = K (.br d) S := by first | exact propext Iff.rfl | rfl
theorem s_varT_lst {i : Nat} {a : Addr} {ts : List T} : varT i S K (some (.lst a ts)) = K (.at i []) S := by first | exact propext Iff.rfl | rfl
theorem s_varT_ins {i : Nat} {a C : Addr} {ns : List Str} {ts : List T} : varT i S K (some (.ins a C ns ts)) = K (.at i []) S := by first | exact propext Iff.rfl | rfl
theorem s_varT_dT {i : Nat} {a : Addr} {kvs : List (List Key × D)} : varT i S K (some (.dT a kvs)) = K (.at i []) S := by first | exact propext Iff.rfl | rfl
theorem s_varT_brT {i : Nat} {d : D} : varT i S K (some (brT d)) = K (brP d) S := by unfold brT brP; split <;> rfl
theorem s_adr_un : adr .un = none := by first | exact propext Iff.rfl | rfl
theorem s_adr_sh {d : D} : adr (.sh d) = none := by first | exact propext Iff.rfl | rfl
theorem s_adr_br {d : D} : adr (.br d) = none := by first | exact propext Iff.rfl | rfl
theorem s_adr_lst {a : Addr} {ts : List T} : adr (.lst a ts) = some a := by first | exact propext Iff.rfl | rfl
theorem s_adr_ins {a C : Addr} {ns : List Str} {ts : List T} : adr (.ins a C ns ts) = some a := by first | exact propext Iff.rfl | rfl
theorem s_adr_dT {a : Addr} {kvs : List (List Key × D)} : adr (.dT a kvs) = some a := by first | exact propext Iff.rfl | rfl
theorem s_adr_brT {d : D} : adr (brT d) = none := by unfold brT; split <;> rfl
theorem s_owClean_brP {d : D} : owClean (brP d) = true := by unfold brP; split <;> rfl
theorem s_argBo_brP {d : D} : argT S .bo (brP d) = brT d := by unfold brP; split <;> rfl
theorem s_okAt_brP {d : D} : okAt (brP d) S S' = True := by unfold brP; split <;> rfl
theorem s_pk_brP {d : D} : pk S (brP d) = d := by unfold brP; split <;> rfl
theorem s_goes_brP {d : D} : goes (brP d) = true := by unfold brP; split <;> rfl
theorem s_pT_brP {d : D} : pT (brP d) = brT d := by unfold brP brT; split <;> rfl
theorem s_brT_int {i : Int} : brT (.int i) = .sh (.int i) := by first | exact propext Iff.rfl | rfl
theorem s_brT_bl {i : Bool} : brT (.bl i) = .sh (.bl i) := by first | exact propext Iff.rfl | rfl
theorem s_brT_str {i : Str} : brT (.str i) = .sh (.str i) := by first | exact propext Iff.rfl | rfl
theorem s_brT_non : brT .non = .sh .non := by first | exact propext Iff.rfl | rfl
theorem s_brT_lst {xs : List D} : brT (.lst xs) = .br (.lst xs) := by first | exact propext Iff.rfl | rfl
theorem s_brT_tup {xs : List D} : brT (.tup xs) = .br (.tup xs) := by first | exact propext Iff.rfl | rfl
theorem s_brT_ins {C : Addr} {ns : List Str} {xs : List D} : brT (.ins C ns xs) = .br (.ins C ns xs) := by first | exact propext Iff.rfl | rfl
theorem s_brT_exc {C : Addr} {ns : List Str} {xs : List D} : brT (.exc C ns xs) = .br (.exc C ns xs) := by first | exact propext Iff.rfl | rfl
theorem s_brT_sq {xs : List D} : brT (.sq xs) = .br (.sq xs) := by first | exact propext Iff.rfl | rfl
theorem s_brP_int {i : Int} : brP (.int i) = .sh (.int i) := by first | exact propext Iff.rfl | rfl
theorem s_brP_bl {i : Bool} : brP (.bl i) = .sh (.bl i) := by first | exact propext Iff.rfl | rfl
theorem s_brP_str {i : Str} : brP (.str i) = .sh (.str i) := by first | exact propext Iff.rfl | rfl
theorem s_brP_non : brP .non = .sh .non := by first | exact propext Iff.rfl | rfl
theorem s_brP_lst {xs : List D} : brP (.lst xs) = .br (.lst xs) := by first | exact propext Iff.rfl | rfl
theorem s_brP_tup {xs : List D} : brP (.tup xs) = .br (.tup xs) := by first | exact propext Iff.rfl | rfl
theorem s_brP_ins {C : Addr} {ns : List Str} {xs : List D} : brP (.ins C ns xs) = .br (.ins C ns xs) := by first | exact propext Iff.rfl | rfl
theorem s_brP_exc {C : Addr} {ns : List Str} {xs : List D} : brP (.exc C ns xs) = .br (.exc C ns xs) := by first | exact propext Iff.rfl | rfl
theorem s_brP_sq {xs : List D} : brP (.sq xs) = .br (.sq xs) := by first | exact propext Iff.rfl | rfl
theorem s_eqv_s {x y : Str} : (D.str x).eqv (.str y) = (x == y) := by simp [D.eqv, D.py, PyData.eqv]
theorem s_eqv_b {x y : Bool} : (D.bl x).eqv (.bl y) = (x == y) := by simp [D.eqv, D.py, PyData.eqv]
theorem s_eqOk_s {n : Nat} {x : Str} : eqOk n (.str x) = PyData.strOk x := by unfold eqOk; cases n <;> rfl
theorem s_cpow_8 : CPow 10 8 = True := eq_true ⟨by decide, by decide, by decide⟩
theorem s_cpow_18 : CPow 10 18 = True := eq_true ⟨by decide, by decide, by decide⟩
theorem s_cpow_20 : CPow 10 20 = True := eq_true ⟨by decide, by decide, by decide⟩
theorem s_cpow_30 : CPow 10 30 = True := eq_true ⟨by decide, by decide, by decide⟩
theorem s_cpow_31 : CPow 10 31 = True := eq_true ⟨by decide, by decide, by decide⟩
end
end SL

set_option Elab.async false
set_option linter.all false
set_option maxRecDepth 100000
set_option maxHeartbeats 4000000
/-! SL25: small functions, shape by shape. -/
namespace SL
open PySem PySem.Spec PyProof.Rows L2
theorem s_tyD_bad  : tyD (.bad) = none := rfl
theorem s_isNon_bad  : SL.isNon (.bad) = false := rfl
theorem s_notBad_bad  : notBad (.bad) = false := rfl
theorem s_flatD_bad  : flatD (.bad) = false := rfl
theorem s_tyD_non  : tyD (.non) = some "NoneType" := rfl
theorem s_isNon_non  : SL.isNon (.non) = true := rfl
theorem s_notBad_non  : notBad (.non) = true := rfl
theorem s_flatD_non  : flatD (.non) = true := rfl
theorem s_tyD_bl (b : Bool) : tyD (.bl b) = some "bool" := rfl
theorem s_isNon_bl (b : Bool) : SL.isNon (.bl b) = false := rfl
theorem s_notBad_bl (b : Bool) : notBad (.bl b) = true := rfl
theorem s_flatD_bl (b : Bool) : flatD (.bl b) = true := rfl
theorem s_tyD_int (i : Int) : tyD (.int i) = some "int" := rfl
theorem s_isNon_int (i : Int) : SL.isNon (.int i) = false := rfl
theorem s_notBad_int (i : Int) : notBad (.int i) = true := rfl
theorem s_flatD_int (i : Int) : flatD (.int i) = true := rfl
theorem s_tyD_str (x : Str) : tyD (.str x) = some "str" := rfl
theorem s_isNon_str (x : Str) : SL.isNon (.str x) = false := rfl
theorem s_notBad_str (x : Str) : notBad (.str x) = true := rfl
theorem s_flatD_str (x : Str) : flatD (.str x) = true := rfl
theorem s_tyD_obj (a : Addr) : tyD (.obj a) = none := rfl
theorem s_isNon_obj (a : Addr) : SL.isNon (.obj a) = false := rfl
theorem s_notBad_obj (a : Addr) : notBad (.obj a) = true := rfl
theorem s_flatD_obj (a : Addr) : flatD (.obj a) = true := rfl
theorem s_tyD_lst (xs : List D) : tyD (.lst xs) = some "list" := rfl
theorem s_isNon_lst (xs : List D) : SL.isNon (.lst xs) = false := rfl
theorem s_notBad_lst (xs : List D) : notBad (.lst xs) = true := rfl
theorem s_flatD_lst (xs : List D) : flatD (.lst xs) = false := rfl
theorem s_tyD_tup (xs : List D) : tyD (.tup xs) = some "tuple" := rfl
theorem s_isNon_tup (xs : List D) : SL.isNon (.tup xs) = false := rfl
theorem s_notBad_tup (xs : List D) : notBad (.tup xs) = true := rfl
theorem s_flatD_tup (xs : List D) : flatD (.tup xs) = false := rfl
theorem s_tyD_ins (C : Addr) (ns : List Str) (xs : List D) : tyD (.ins C ns xs) = none := rfl
theorem s_isNon_ins (C : Addr) (ns : List Str) (xs : List D) : SL.isNon (.ins C ns xs) = false := rfl
theorem s_notBad_ins (C : Addr) (ns : List Str) (xs : List D) : notBad (.ins C ns xs) = true := rfl
theorem s_flatD_ins (C : Addr) (ns : List Str) (xs : List D) : flatD (.ins C ns xs) = false := rfl
theorem s_tyD_sq (xs : List D) : tyD (.sq xs) = none := rfl
theorem s_isNon_sq (xs : List D) : SL.isNon (.sq xs) = false := rfl
theorem s_notBad_sq (xs : List D) : notBad (.sq xs) = true := rfl
theorem s_flatD_sq (xs : List D) : flatD (.sq xs) = false := rfl
theorem s_tyD_exc (C : Addr) (ns : List Str) (xs : List D) : tyD (.exc C ns xs) = none := rfl
theorem s_isNon_exc (C : Addr) (ns : List Str) (xs : List D) : SL.isNon (.exc C ns xs) = false := rfl
theorem s_notBad_exc (C : Addr) (ns : List Str) (xs : List D) : notBad (.exc C ns xs) = true := rfl
theorem s_flatD_exc (C : Addr) (ns : List Str) (xs : List D) : flatD (.exc C ns xs) = false := rfl
theorem s_goes_sh (d : D) : goes (.sh d) = true := rfl
theorem s_owClean_sh (d : D) : owClean (.sh d) = true := rfl
theorem s_rOk_sh (d : D) : rOk (.sh d) = true := rfl
theorem s_pT_sh (d : D) : pT (.sh d) = .sh d := rfl
theorem s_shD_sh (d : D) : shD (.sh d) = some d := rfl
theorem s_argT_as_sh (d : D) {S : List T} : argT S .as (.sh d) = .sh d := rfl
theorem s_argT_bo_sh (d : D) {S : List T} : argT S .bo (.sh d) = brT d := rfl
theorem s_argT_io_sh (d : D) {S : List T} : argT S .io (.sh d) = .sh d := rfl
theorem s_goes_br (d : D) : goes (.br d) = true := rfl
theorem s_owClean_br (d : D) : owClean (.br d) = true := rfl
theorem s_rOk_br (d : D) : rOk (.br d) = false := rfl
theorem s_pT_br (d : D) : pT (.br d) = .br d := rfl
theorem s_shD_br (d : D) : shD (.br d) = if flatD d = true then some d else none := rfl
theorem s_argT_as_br (d : D) {S : List T} : argT S .as (.br d) = .br d := rfl
theorem s_argT_bo_br (d : D) {S : List T} : argT S .bo (.br d) = brT d := rfl
theorem s_argT_io_br (d : D) {S : List T} : argT S .io (.br d) = .br d := rfl
theorem s_goes_ow (t : T) : goes (.ow t) = true := rfl
theorem s_owClean_ow (t : T) : owClean (.ow t) = clean t := rfl
theorem s_rOk_ow (t : T) : rOk (.ow t) = clean t := rfl
theorem s_pT_ow (t : T) : pT (.ow t) = t := rfl
theorem s_shD_ow (t : T) : shD (.ow t) = none := rfl
theorem s_argT_as_ow (t : T) {S : List T} : argT S .as (.ow t) = t := rfl
theorem s_argT_bo_ow (t : T) {S : List T} : argT S .bo (.ow t) = t := rfl
theorem s_argT_io_ow (t : T) {S : List T} : argT S .io (.ow t) = t := rfl
theorem s_goes_at (i : Nat) (q : List Nat) : goes (.at i q) = false := rfl
theorem s_owClean_at (i : Nat) (q : List Nat) : owClean (.at i q) = true := rfl
theorem s_rOk_at (i : Nat) (q : List Nat) : rOk (.at i q) = false := rfl
theorem s_pT_at (i : Nat) (q : List Nat) : pT (.at i q) = .un := rfl
theorem s_shD_at (i : Nat) (q : List Nat) : shD (.at i q) = none := rfl
theorem s_argT_as_at (i : Nat) (q : List Nat) {S : List T} : argT S .as (.at i q) = .un := rfl
theorem s_argT_bo_at (i : Nat) (q : List Nat) {S : List T} : argT S .bo (.at i q) = brT (pk S (.at i q)) := rfl
theorem s_argT_io_at (i : Nat) (q : List Nat) {S : List T} : argT S .io (.at i q) = (node S i q).getD .un := rfl
theorem s_tP_un  : tP (.un) = none := rfl
theorem s_cP_un  {m : Nat} {q : List Nat} {n : Nat} : cP m q n (.un) = none := rfl
theorem s_leaf_un  : leaf (.un) = false := rfl
theorem s_tD_un  : tD (.un) = none := rfl
theorem s_tP_sh (d : D) : tP (.sh d) = some (.sh d) := rfl
theorem s_cP_sh (d : D) {m : Nat} {q : List Nat} {n : Nat} : cP m q n (.sh d) = some (.sh d) := rfl
theorem s_leaf_sh (d : D) : leaf (.sh d) = true := rfl
theorem s_tD_sh (d : D) : tD (.sh d) = some d := rfl
theorem s_tP_br (d : D) : tP (.br d) = some (brP d) := rfl
theorem s_cP_br (d : D) {m : Nat} {q : List Nat} {n : Nat} : cP m q n (.br d) = some (brP d) := rfl
theorem s_leaf_br (d : D) : leaf (.br d) = true := rfl
theorem s_tD_br (d : D) : tD (.br d) = if flatD d = true then some d else none := rfl
theorem s_tP_lst (a : Addr) (ts : List T) : tP (.lst a ts) = some (.ow (.lst a ts)) := rfl
theorem s_cP_lst (a : Addr) (ts : List T) {m : Nat} {q : List Nat} {n : Nat} : cP m q n (.lst a ts) = some (.at m (q ++ [n])) := rfl
theorem s_leaf_lst (a : Addr) (ts : List T) : leaf (.lst a ts) = false := rfl
theorem s_tD_lst (a : Addr) (ts : List T) : tD (.lst a ts) = none := rfl
theorem s_tP_ins (a : Addr) (C : Addr) (ns : List Str) (ts : List T) : tP (.ins a C ns ts) = some (.ow (.ins a C ns ts)) := rfl
theorem s_cP_ins (a : Addr) (C : Addr) (ns : List Str) (ts : List T) {m : Nat} {q : List Nat} {n : Nat} : cP m q n (.ins a C ns ts) = some (.at m (q ++ [n])) := rfl
theorem s_leaf_ins (a : Addr) (C : Addr) (ns : List Str) (ts : List T) : leaf (.ins a C ns ts) = false := rfl
theorem s_tD_ins (a : Addr) (C : Addr) (ns : List Str) (ts : List T) : tD (.ins a C ns ts) = none := rfl
theorem s_tP_dT (a : Addr) (kvs : List (List Key × D)) : tP (.dT a kvs) = some (.ow (.dT a kvs)) := rfl
theorem s_cP_dT (a : Addr) (kvs : List (List Key × D)) {m : Nat} {q : List Nat} {n : Nat} : cP m q n (.dT a kvs) = some (.at m (q ++ [n])) := rfl
theorem s_leaf_dT (a : Addr) (kvs : List (List Key × D)) : leaf (.dT a kvs) = false := rfl
theorem s_tD_dT (a : Addr) (kvs : List (List Key × D)) : tD (.dT a kvs) = none := rfl
theorem s_bos_brP {d : D} {ms : List Md} {ps : List P} : bos (.bo :: ms) (brP d :: ps) = bos ms ps := by unfold brP; split <;> rfl
theorem s_rOk_brP {d : D} : rOk (brP d) = flatD d := by unfold brP; split <;> simp_all [rOk]
end SL

set_option Elab.async false
set_option linter.all false
set_option maxRecDepth 100000
set_option maxHeartbeats 4000000
/-! SL26: isinstance, exceptions as values, lists of bools, stepped. -/
namespace SL
open PySem PySem.Spec PyProof.Rows L2
section
variable {S S' S1 S2 S3 : List T} {K : KP} {Ke : KE} {p q r : P} {ps : List P} {i j : Int} {k : Nat} {w : List Nat} {f : WE} {fa : WA}
def kIs (KF : PySem.W.Frag) (Cs Os : List Addr) (u : Value) (K : KP) : KP := fun p S1 => (match pk S1 p with
    | .exc C _ _ => C ∈ Cs
    | .ins C _ _ => C ∈ Os
    | _ => True) ∧ optK (kindD (pk S1 p)) fun t => optK (PySem.W.kitOne KF t u) fun b => K (.sh (.bl b)) S1
theorem s_is {KF : PySem.W.Frag} {Cs Os : List Addr} {u : Value} : wIs KF Cs Os u f S K Ke = f S (kIs KF Cs Os u K) Ke := by first | exact propext Iff.rfl | rfl
theorem s_kIs_sx {KF : PySem.W.Frag} {Cs Os : List Addr} {u : Value} {C : Addr} {ns : List Str} {xs : List D} : kIs KF Cs Os u K (.sh (.exc C ns xs)) S = (C ∈ Cs ∧ optK (PySem.W.kitOne KF (.ref C) u) (kBl K S)) := by first | exact propext Iff.rfl | rfl
theorem s_kIs_bx {KF : PySem.W.Frag} {Cs Os : List Addr} {u : Value} {C : Addr} {ns : List Str} {xs : List D} : kIs KF Cs Os u K (.br (.exc C ns xs)) S = (C ∈ Cs ∧ optK (PySem.W.kitOne KF (.ref C) u) (kBl K S)) := by first | exact propext Iff.rfl | rfl
def kV2 (C : Addr) (K : KP) : List P → List T → Prop := fun ps S1 => match ps with
    | [p, q] => optK (shD p) fun d => optK (shD q) fun e => K (.sh (.exc C ["code", "at"] [e, d])) S1
    | _ => False
theorem s_val2 {C : Addr} : wVal2 C fa S K Ke = fa S (kV2 C K) Ke := by first | exact propext Iff.rfl | rfl
theorem s_kV2_ss {C : Addr} {d e : D} : kV2 C K [.sh d, .sh e] S = K (.sh (.exc C ["code", "at"] [e, d])) S := by first | exact propext Iff.rfl | rfl
def kV1 (C : Addr) (K : KP) : List P → List T → Prop := fun ps S1 => match ps with
    | [p] => optK (shD p) fun d => K (.sh (.exc C ["reason"] [d])) S1
    | _ => False
theorem s_val1 {C : Addr} : wVal1 C fa S K Ke = fa S (kV1 C K) Ke := by first | exact propext Iff.rfl | rfl
theorem s_kV1_s {C : Addr} {d : D} : kV1 C K [.sh d] S = K (.sh (.exc C ["reason"] [d])) S := by first | exact propext Iff.rfl | rfl
theorem s_val0 {C : Addr} : wVal0 C S K Ke = K (.sh (.exc C [] [])) S := by first | exact propext Iff.rfl | rfl
theorem s_xv_b {Cs : List Addr} {n : Str} {C : Addr} {ns : List Str} {xs : List D} : wXv Cs n S (.br (.exc C ns xs)) K = (C ∈ Cs ∧ optK ((fpos n ns).bind fun j => xs[j]?.map brP) (kAt K S)) := by
  show (C ∈ Cs ∧ optK (fpos n ns) fun j => optK xs[j]? fun x => K (brP x) S) = _
  cases fpos n ns with
  | none => rfl
  | some j => cases h : xs[j]? <;> simp [optK, h, kAt]
theorem s_xv_s {Cs : List Addr} {n : Str} {C : Addr} {ns : List Str} {xs : List D} : wXv Cs n S (.sh (.exc C ns xs)) K = (C ∈ Cs ∧ optK ((fpos n ns).bind fun j => xs[j]?) (kSh K S)) := by
  show (C ∈ Cs ∧ optK (fpos n ns) fun j => optK xs[j]? fun x => K (.sh x) S) = _
  cases fpos n ns with
  | none => rfl
  | some j => cases h : xs[j]? <;> simp [optK, h, kSh]
end
theorem eqvAll_bls : ∀ bs : List Bool, PyData.eqvAll (D.pys (bs.map D.bl)) (D.pys (bs.map D.bl)) = true
  | [] => by simp [D.pys, PyData.eqvAll]
  | b :: bs => by simp [D.pys, PyData.eqvAll, D.py, PyData.eqv, eqvAll_bls bs]
theorem eqOk_bls {n : Nat} (bs : List Bool) : eqOk (n + 1) (.lst (bs.map D.bl)) = true := by
  simp [eqOk, List.all_map, Function.comp]
theorem eqv_bls (bs : List Bool) : (D.lst (bs.map D.bl)).eqv (.lst (bs.map D.bl)) = true := by
  unfold D.eqv D.py PyData.eqv
  exact eqvAll_bls bs
end SL
namespace SLH
open PySem PySem.Spec PyProof.Rows L2 He SL
open PySem.W (Frag findIn subIn typeIn mroIn nsIn keepIn clsIn specialIn takesIn kitOne excIn)
/-- an exception class: what isinstance and its fields ask -/
def isCB (K : Frag) (x : Str) : Bool :=
  (clsIn K (ga K x)).isSome && (eqO (findIn K (.ref (ga K x)) "__class__") (some (some (.builtin "object.__class__"))) && (eqO (specialIn K (.builtin "object.__class__") "__get__") (some (some (.builtin "getset_descriptor.__get__"))) &&
  (eqB (takesIn K (.builtin "object.__class__")) true && (eqB (mroIn K (ga K x) (.type "object")) true && xfB K (ga K x)))))
theorem isC_ok {K : Frag} {x : Str} (h : isCB K x = true) : IsC K (ga K x) ∧ XfC K (ga K x) := by
  obtain ⟨a1, h⟩ := ba h
  obtain ⟨a2, h⟩ := ba h
  obtain ⟨a3, h⟩ := ba h
  obtain ⟨a4, h⟩ := ba h
  obtain ⟨a5, h⟩ := ba h
  have t := xfB_ok h
  exact ⟨⟨a1, t.ga, ⟨_, t.gg⟩, t.exC, eqO_ok a2, eqO_ok a3, eqB_ok a4, eqB_ok a5⟩, t⟩
/-- no class attribute of this name -/
def noAt (K : Frag) (x n : Str) : Bool := eqO (findIn K (.ref (ga K x)) n) (some none)
theorem noAt_ok {K : Frag} {x n : Str} (h : noAt K x n = true) : findIn K (.ref (ga K x)) n = some none := eqO_ok h
def kitAB (K : Frag) (a b : Str) (v : Bool) : Bool := eqB (kitOne K (.ref (ga K a)) (.ref (ga K b))) v
def kitAT (K : Frag) (a : Str) (t : String) (v : Bool) : Bool := eqB (kitOne K (.ref (ga K a)) (.type t)) v
def exc0B (K : Frag) (x : Str) : Bool := excIn K (ga K x) SLX.veB "ValueError.__new__" && keepIn K (.ref (ga K x))
theorem exc0_ok {K : Frag} {x : Str} (h : exc0B K x = true) : excIn K (ga K x) SLX.veB "ValueError.__new__" = true ∧ keepIn K (.ref (ga K x)) = true := ba h
/-- classes of which none is of another's kind -/
def kinB (K : Frag) (ns : List Str) : Bool := ns.all fun a => ns.all fun b => kitAB K a b (a == b)
theorem kin_ok {K : Frag} {ns : List Str} (h : kinB K ns = true) {a b : Str} (ha : a ∈ ns) (hb : b ∈ ns) : kitOne K (.ref (ga K a)) (.ref (ga K b)) = some (a == b) :=
  eqB_ok (List.all_eq_true.mp (List.all_eq_true.mp h a ha) b hb)
end SLH

set_option Elab.async false
set_option linter.all false
set_option maxRecDepth 100000
set_option maxHeartbeats 4000000
/-! SL27: the end of a law. -/
namespace SL
open PySem PySem.Spec PyProof.Rows L2
theorem walk_sl {l : PySem.W.OpenLaw} {n k : Nat} {q : Program} {loose : List Str} {XP : (Str → Option Value) → Heap → Prop} {YP : World → Heap → Prop} {d : DefRec} {x : Str}
    (hn : l.most = some n) (hn2 : n ≤ sizeLine) (hdf : d.params.defaults = []) (hr : Room k callerA)
    (F : ∀ (w : World) (mg : Str → Option Value) (fa : Addr) (h : Heap), YP w h → h.Ns mainGlobals mg → mg d.name = some (.ref fa) →
      ∃ (K : PySem.W.Frag) (fd : FuncData) (C : Con), K.In h ∧ (∀ (s : Shared) (u : Value), BindsTo s fd ⟨[u], []⟩ [(x, u)]) ∧
        (∀ (ns : List Int) Kr Kx, ns.length ≤ n → Kr (.sh (.bl true)) [.sh (.sq (iD ns))] → C [.sh (.sq (iD ns))] Kr Kx) ∧
        ∀ base : Heap, K.In base → base.Ns mainGlobals mg → FnOk l.prog w K mg base (L2.CX l.prog w) k fa fd [x] (SpI K 1 C)) :
    PySem.W.WalkO q loose XP YP l.row.toRowW d [] (fun f vs => PySem.call f vs) := by
  refine Att.attach_call hn hdf fun w s₀ s₁ mg mb fa o pm cd doc a vs ns G Y ho hd hcd hmg hobj hints hlen hg => ?_
  obtain ⟨K, fd, C, KX, hb, hC, hF⟩ := F w mg fa _ Y G.T.g hmg
  refine law_call KX G.T.g G.T.b G.T.builtins G.T.nolimit hg hobj hints (Nat.le_trans hlen hn2) hr hF hb (fun H _ hS => sl_law hC H a ns hlen hS) fun H e s' => ?_
  rintro ⟨_, _, _, _, _, _, _, _, _, _, _, _, hE⟩
  exact hE
/-- Good as the end wants it -/
theorem Good.fn {P : Program} {w : World} {K : PySem.W.Frag} {mg : Str → Option Value} {base : Heap} {k : Nat} {x : Str} {ps : List Str} {C : Con} {fd : FuncData} {qual : Str} {params : Arguments} {body : List Stmt} {scope : Scope} {N : List Str} {W : WS}
    (F : FunD K x qual params body scope [] [] (He.ga K x) fd) (S : FnScope N ps scope)
    (hbody : ∀ (cdv : Value) (A : Around) (outer : List Env) (s : Shared) (H : Hp) (E : XK) (c : Ct) (Ke : KE), Room k (A.deeper (envOfC qual scope s.heap.objs.size (He.ga K x) cdv)) → Takes (cxOf (L2.CX P w) P w K mg base N qual scope (He.ga K x) cdv A outer s H E) (wxS K c Ke) →
      PSs (cxOf (L2.CX P w) P w K mg base N qual scope (He.ga K x) cdv A outer s H E) body (tS K c Ke W))
    (hw : ∀ ts Kr Kx, ts.length = ps.length → C ts Kr Kx → W (ts ++ List.replicate (N.length - ps.length) .un) (kOf ts Kr Kx)) : FnOk P w K mg base (L2.CX P w) (k + 1) (He.ga K x) fd ps (SpI K ps.length C) := sl_ok F S hbody hw
end SL

set_option Elab.async false
set_option linter.all false
set_option maxRecDepth 100000
set_option maxHeartbeats 0
namespace K97
open PySem PySem.Spec PyProof.Rows L2 SLH SL
def top (i : Nat) : Stmt := PySem.Challenge.pw_everymorning_k97_error_classes.main.body.getD i (.Pass ⟨0, 0, 0, 0⟩)
abbrev s_law_number : Stmt := top 21
def d_law_number : He.DefD := ⟨("_law_number", none), "_law_number", "_law_number", defArgs s_law_number, defBody s_law_number, defScope s_law_number, [], []⟩
abbrev s_law_same : Stmt := top 22
def d_law_same : He.DefD := ⟨("_law_same", none), "_law_same", "_law_same", defArgs s_law_same, defBody s_law_same, defScope s_law_same, [], []⟩
abbrev s_law_pool : Stmt := top 23
def d_law_pool : He.DefD := ⟨("_law_pool", none), "_law_pool", "_law_pool", defArgs s_law_pool, defBody s_law_pool, defScope s_law_pool, [], []⟩
abbrev s_law_take : Stmt := top 24
def d_law_take : He.DefD := ⟨("_law_take", none), "_law_take", "_law_take", defArgs s_law_take, defBody s_law_take, defScope s_law_take, [], []⟩
abbrev s_law_great : Stmt := top 25
def d_law_great : He.DefD := ⟨("_law_great", none), "_law_great", "_law_great", defArgs s_law_great, defBody s_law_great, defScope s_law_great, [], []⟩
abbrev s_law_integer : Stmt := top 26
def d_law_integer : He.DefD := ⟨("_law_integer", none), "_law_integer", "_law_integer", defArgs s_law_integer, defBody s_law_integer, defScope s_law_integer, [], []⟩
abbrev s_law_text : Stmt := top 27
def d_law_text : He.DefD := ⟨("_law_text", none), "_law_text", "_law_text", defArgs s_law_text, defBody s_law_text, defScope s_law_text, [], []⟩
abbrev s_law_drawn : Stmt := top 28
def d_law_drawn : He.DefD := ⟨("_law_drawn", none), "_law_drawn", "_law_drawn", defArgs s_law_drawn, defBody s_law_drawn, defScope s_law_drawn, [], []⟩
abbrev s_law_made : Stmt := top 29
def d_law_made : He.DefD := ⟨("_law_made", none), "_law_made", "_law_made", defArgs s_law_made, defBody s_law_made, defScope s_law_made, [], []⟩
abbrev s_law_kin : Stmt := top 30
def d_law_kin : He.DefD := ⟨("_law_kin", none), "_law_kin", "_law_kin", defArgs s_law_kin, defBody s_law_kin, defScope s_law_kin, [], []⟩
abbrev s_law_holds : Stmt := top 31
def d_law_holds : He.DefD := ⟨("_law_holds", none), "_law_holds", "_law_holds", defArgs s_law_holds, defBody s_law_holds, defScope s_law_holds, [], []⟩
abbrev slaw : Stmt := top 32
def dlaw : He.DefD := ⟨("law", none), "law", "law", defArgs slaw, defBody slaw, defScope slaw, [], []⟩
def fn : List He.DefD := [d_law_number, d_law_same, d_law_pool, d_law_take, d_law_great, d_law_integer, d_law_text, d_law_drawn, d_law_made, d_law_kin, d_law_holds, dlaw]
def qOutOfRange : Nat → Pos := psOf [(7, 25, 7, 29), (7, 8, 7, 13), (7, 8, 7, 15), (7, 8, 7, 24), (7, 8, 7, 30), (7, 8, 7, 30), (8, 8, 8, 12), (8, 8, 8, 15), (8, 18, 8, 20), (8, 8, 8, 20), (9, 8, 9, 12), (9, 8, 9, 17), (9, 20, 9, 24), (9, 8, 9, 24)]
def xOutOfRange : DefX := ⟨"OutOfRange", "OutOfRange.__init__", SLX.sArgs (SLX.args2 ⟨6, 17, 6, 21⟩ ⟨6, 23, 6, 25⟩ ⟨6, 27, 6, 31⟩), SLX.body2 qOutOfRange, SLX.sScope ["self", "at", "code"]⟩
def qBadDepot : Nat → Pos := psOf [(13, 25, 13, 29), (13, 8, 13, 13), (13, 8, 13, 15), (13, 8, 13, 24), (13, 8, 13, 30), (13, 8, 13, 30), (14, 8, 14, 12), (14, 8, 14, 15), (14, 18, 14, 20), (14, 8, 14, 20), (15, 8, 15, 12), (15, 8, 15, 17), (15, 20, 15, 24), (15, 8, 15, 24)]
def xBadDepot : DefX := ⟨"BadDepot", "BadDepot.__init__", SLX.sArgs (SLX.args2 ⟨12, 17, 12, 21⟩ ⟨12, 23, 12, 25⟩ ⟨12, 27, 12, 31⟩), SLX.body2 qBadDepot, SLX.sScope ["self", "at", "code"]⟩
def qBadBook : Nat → Pos := psOf [(19, 25, 19, 29), (19, 8, 19, 13), (19, 8, 19, 15), (19, 8, 19, 24), (19, 8, 19, 30), (19, 8, 19, 30), (20, 8, 20, 12), (20, 8, 20, 15), (20, 18, 20, 20), (20, 8, 20, 20), (21, 8, 21, 12), (21, 8, 21, 17), (21, 20, 21, 24), (21, 8, 21, 24)]
def xBadBook : DefX := ⟨"BadBook", "BadBook.__init__", SLX.sArgs (SLX.args2 ⟨18, 17, 18, 21⟩ ⟨18, 23, 18, 25⟩ ⟨18, 27, 18, 31⟩), SLX.body2 qBadBook, SLX.sScope ["self", "at", "code"]⟩
def qBadLives : Nat → Pos := psOf [(25, 25, 25, 29), (25, 8, 25, 13), (25, 8, 25, 15), (25, 8, 25, 24), (25, 8, 25, 30), (25, 8, 25, 30), (26, 8, 26, 12), (26, 8, 26, 15), (26, 18, 26, 20), (26, 8, 26, 20), (27, 8, 27, 12), (27, 8, 27, 17), (27, 20, 27, 24), (27, 8, 27, 24)]
def xBadLives : DefX := ⟨"BadLives", "BadLives.__init__", SLX.sArgs (SLX.args2 ⟨24, 17, 24, 21⟩ ⟨24, 23, 24, 25⟩ ⟨24, 27, 24, 31⟩), SLX.body2 qBadLives, SLX.sScope ["self", "at", "code"]⟩
def qBadPasses : Nat → Pos := psOf [(31, 25, 31, 29), (31, 8, 31, 13), (31, 8, 31, 15), (31, 8, 31, 24), (31, 8, 31, 30), (31, 8, 31, 30), (32, 8, 32, 12), (32, 8, 32, 15), (32, 18, 32, 20), (32, 8, 32, 20), (33, 8, 33, 12), (33, 8, 33, 17), (33, 20, 33, 24), (33, 8, 33, 24)]
def xBadPasses : DefX := ⟨"BadPasses", "BadPasses.__init__", SLX.sArgs (SLX.args2 ⟨30, 17, 30, 21⟩ ⟨30, 23, 30, 25⟩ ⟨30, 27, 30, 31⟩), SLX.body2 qBadPasses, SLX.sScope ["self", "at", "code"]⟩
def qBadCrews : Nat → Pos := psOf [(37, 25, 37, 29), (37, 8, 37, 13), (37, 8, 37, 15), (37, 8, 37, 24), (37, 8, 37, 30), (37, 8, 37, 30), (38, 8, 38, 12), (38, 8, 38, 15), (38, 18, 38, 20), (38, 8, 38, 20), (39, 8, 39, 12), (39, 8, 39, 17), (39, 20, 39, 24), (39, 8, 39, 24)]
def xBadCrews : DefX := ⟨"BadCrews", "BadCrews.__init__", SLX.sArgs (SLX.args2 ⟨36, 17, 36, 21⟩ ⟨36, 23, 36, 25⟩ ⟨36, 27, 36, 31⟩), SLX.body2 qBadCrews, SLX.sScope ["self", "at", "code"]⟩
def qBadWish : Nat → Pos := psOf [(43, 25, 43, 29), (43, 8, 43, 13), (43, 8, 43, 15), (43, 8, 43, 24), (43, 8, 43, 30), (43, 8, 43, 30), (44, 8, 44, 12), (44, 8, 44, 15), (44, 18, 44, 20), (44, 8, 44, 20), (45, 8, 45, 12), (45, 8, 45, 17), (45, 20, 45, 24), (45, 8, 45, 24)]
def xBadWish : DefX := ⟨"BadWish", "BadWish.__init__", SLX.sArgs (SLX.args2 ⟨42, 17, 42, 21⟩ ⟨42, 23, 42, 25⟩ ⟨42, 27, 42, 31⟩), SLX.body2 qBadWish, SLX.sScope ["self", "at", "code"]⟩
def qBadBounds : Nat → Pos := psOf [(49, 25, 49, 29), (49, 8, 49, 13), (49, 8, 49, 15), (49, 8, 49, 24), (49, 8, 49, 30), (49, 8, 49, 30), (50, 8, 50, 12), (50, 8, 50, 15), (50, 18, 50, 20), (50, 8, 50, 20), (51, 8, 51, 12), (51, 8, 51, 17), (51, 20, 51, 24), (51, 8, 51, 24)]
def xBadBounds : DefX := ⟨"BadBounds", "BadBounds.__init__", SLX.sArgs (SLX.args2 ⟨48, 17, 48, 21⟩ ⟨48, 23, 48, 25⟩ ⟨48, 27, 48, 31⟩), SLX.body2 qBadBounds, SLX.sScope ["self", "at", "code"]⟩
def qBadNotes : Nat → Pos := psOf [(55, 25, 55, 29), (55, 8, 55, 13), (55, 8, 55, 15), (55, 8, 55, 24), (55, 8, 55, 30), (55, 8, 55, 30), (56, 8, 56, 12), (56, 8, 56, 15), (56, 18, 56, 20), (56, 8, 56, 20), (57, 8, 57, 12), (57, 8, 57, 17), (57, 20, 57, 24), (57, 8, 57, 24)]
def xBadNotes : DefX := ⟨"BadNotes", "BadNotes.__init__", SLX.sArgs (SLX.args2 ⟨54, 17, 54, 21⟩ ⟨54, 23, 54, 25⟩ ⟨54, 27, 54, 31⟩), SLX.body2 qBadNotes, SLX.sScope ["self", "at", "code"]⟩
def qBadLists : Nat → Pos := psOf [(61, 25, 61, 29), (61, 8, 61, 13), (61, 8, 61, 15), (61, 8, 61, 24), (61, 8, 61, 30), (61, 8, 61, 30), (62, 8, 62, 12), (62, 8, 62, 15), (62, 18, 62, 20), (62, 8, 62, 20), (63, 8, 63, 12), (63, 8, 63, 17), (63, 20, 63, 24), (63, 8, 63, 24)]
def xBadLists : DefX := ⟨"BadLists", "BadLists.__init__", SLX.sArgs (SLX.args2 ⟨60, 17, 60, 21⟩ ⟨60, 23, 60, 25⟩ ⟨60, 27, 60, 31⟩), SLX.body2 qBadLists, SLX.sScope ["self", "at", "code"]⟩
def qBadGroup : Nat → Pos := psOf [(67, 25, 67, 29), (67, 8, 67, 13), (67, 8, 67, 15), (67, 8, 67, 24), (67, 8, 67, 30), (67, 8, 67, 30), (68, 8, 68, 12), (68, 8, 68, 15), (68, 18, 68, 20), (68, 8, 68, 20), (69, 8, 69, 12), (69, 8, 69, 17), (69, 20, 69, 24), (69, 8, 69, 24)]
def xBadGroup : DefX := ⟨"BadGroup", "BadGroup.__init__", SLX.sArgs (SLX.args2 ⟨66, 17, 66, 21⟩ ⟨66, 23, 66, 25⟩ ⟨66, 27, 66, 31⟩), SLX.body2 qBadGroup, SLX.sScope ["self", "at", "code"]⟩
def qBadCompany : Nat → Pos := psOf [(73, 25, 73, 29), (73, 8, 73, 13), (73, 8, 73, 15), (73, 8, 73, 24), (73, 8, 73, 30), (73, 8, 73, 30), (74, 8, 74, 12), (74, 8, 74, 15), (74, 18, 74, 20), (74, 8, 74, 20), (75, 8, 75, 12), (75, 8, 75, 17), (75, 20, 75, 24), (75, 8, 75, 24)]
def xBadCompany : DefX := ⟨"BadCompany", "BadCompany.__init__", SLX.sArgs (SLX.args2 ⟨72, 17, 72, 21⟩ ⟨72, 23, 72, 25⟩ ⟨72, 27, 72, 31⟩), SLX.body2 qBadCompany, SLX.sScope ["self", "at", "code"]⟩
def qBadTerms : Nat → Pos := psOf [(79, 25, 79, 29), (79, 8, 79, 13), (79, 8, 79, 15), (79, 8, 79, 24), (79, 8, 79, 30), (79, 8, 79, 30), (80, 8, 80, 12), (80, 8, 80, 15), (80, 18, 80, 20), (80, 8, 80, 20), (81, 8, 81, 12), (81, 8, 81, 17), (81, 20, 81, 24), (81, 8, 81, 24)]
def xBadTerms : DefX := ⟨"BadTerms", "BadTerms.__init__", SLX.sArgs (SLX.args2 ⟨78, 17, 78, 21⟩ ⟨78, 23, 78, 25⟩ ⟨78, 27, 78, 31⟩), SLX.body2 qBadTerms, SLX.sScope ["self", "at", "code"]⟩
def qBadLottery : Nat → Pos := psOf [(85, 25, 85, 29), (85, 8, 85, 13), (85, 8, 85, 15), (85, 8, 85, 24), (85, 8, 85, 30), (85, 8, 85, 30), (86, 8, 86, 12), (86, 8, 86, 15), (86, 18, 86, 20), (86, 8, 86, 20), (87, 8, 87, 12), (87, 8, 87, 17), (87, 20, 87, 24), (87, 8, 87, 24)]
def xBadLottery : DefX := ⟨"BadLottery", "BadLottery.__init__", SLX.sArgs (SLX.args2 ⟨84, 17, 84, 21⟩ ⟨84, 23, 84, 25⟩ ⟨84, 27, 84, 31⟩), SLX.body2 qBadLottery, SLX.sScope ["self", "at", "code"]⟩
def qBadLine : Nat → Pos := psOf [(91, 25, 91, 29), (91, 8, 91, 13), (91, 8, 91, 15), (91, 8, 91, 24), (91, 8, 91, 30), (91, 8, 91, 30), (92, 8, 92, 12), (92, 8, 92, 15), (92, 18, 92, 20), (92, 8, 92, 20), (93, 8, 93, 12), (93, 8, 93, 17), (93, 20, 93, 24), (93, 8, 93, 24)]
def xBadLine : DefX := ⟨"BadLine", "BadLine.__init__", SLX.sArgs (SLX.args2 ⟨90, 17, 90, 21⟩ ⟨90, 23, 90, 25⟩ ⟨90, 27, 90, 31⟩), SLX.body2 qBadLine, SLX.sScope ["self", "at", "code"]⟩
def qNoBook : Nat → Pos := psOf [(97, 25, 97, 48), (97, 8, 97, 13), (97, 8, 97, 15), (97, 8, 97, 24), (97, 8, 97, 49), (97, 8, 97, 49), (98, 8, 98, 12), (98, 8, 98, 19), (98, 22, 98, 28), (98, 8, 98, 28)]
def xNoBook : DefX := ⟨"NoBook", "NoBook.__init__", SLX.sArgs (SLX.args1 ⟨96, 17, 96, 21⟩ ⟨96, 23, 96, 29⟩), SLX.body1 (.str "there is no such book") 0 qNoBook, SLX.sScope ["self", "reason"]⟩
def qGoalLost : Nat → Pos := psOf [(102, 25, 102, 53), (102, 8, 102, 13), (102, 8, 102, 15), (102, 8, 102, 24), (102, 8, 102, 54), (102, 8, 102, 54), (103, 8, 103, 12), (103, 8, 103, 19), (103, 22, 103, 28), (103, 8, 103, 28)]
def xGoalLost : DefX := ⟨"GoalLost", "GoalLost.__init__", SLX.sArgs (SLX.args1 ⟨101, 17, 101, 21⟩ ⟨101, 23, 101, 29⟩), SLX.body1 (.str "the goal cannot be reached") 0 qGoalLost, SLX.sScope ["self", "reason"]⟩
def fx : List DefX := [xOutOfRange, xBadDepot, xBadBook, xBadLives, xBadPasses, xBadCrews, xBadWish, xBadBounds, xBadNotes, xBadLists, xBadGroup, xBadCompany, xBadTerms, xBadLottery, xBadLine, xNoBook, xGoalLost]
def nms : List Str := ["OutOfRange", "BadDepot", "BadBook", "BadLives", "BadPasses", "BadCrews", "BadWish", "BadBounds", "BadNotes", "BadLists", "BadLine", "BadGroup", "BadCompany", "BadTerms", "BadLottery", "NoBook", "GoalLost", "NothingLeft"]
def fs : List (PySem.W.Frag → Bool) := [fun K => (He.Fa.glo "_law_number").ok K,
  fun K => (He.Fa.glo "_law_same").ok K,
  fun K => (He.Fa.glo "_law_pool").ok K,
  fun K => (He.Fa.glo "_law_take").ok K,
  fun K => (He.Fa.glo "_law_great").ok K,
  fun K => (He.Fa.glo "_law_integer").ok K,
  fun K => (He.Fa.glo "_law_text").ok K,
  fun K => (He.Fa.glo "_law_drawn").ok K,
  fun K => (He.Fa.glo "_law_made").ok K,
  fun K => (He.Fa.glo "_law_kin").ok K,
  fun K => (He.Fa.glo "_law_holds").ok K,
  fun K => (He.Fa.glo "law").ok K,
  fun K => (He.Fa.glo "EverymorningError").ok K,
  fun K => (He.Fa.glo "OutOfRange").ok K,
  fun K => (He.Fa.glo "BadDepot").ok K,
  fun K => (He.Fa.glo "BadBook").ok K,
  fun K => (He.Fa.glo "BadLives").ok K,
  fun K => (He.Fa.glo "BadPasses").ok K,
  fun K => (He.Fa.glo "BadCrews").ok K,
  fun K => (He.Fa.glo "BadWish").ok K,
  fun K => (He.Fa.glo "BadBounds").ok K,
  fun K => (He.Fa.glo "BadNotes").ok K,
  fun K => (He.Fa.glo "BadLists").ok K,
  fun K => (He.Fa.glo "BadGroup").ok K,
  fun K => (He.Fa.glo "BadCompany").ok K,
  fun K => (He.Fa.glo "BadTerms").ok K,
  fun K => (He.Fa.glo "BadLottery").ok K,
  fun K => (He.Fa.glo "BadLine").ok K,
  fun K => (He.Fa.glo "NoBook").ok K,
  fun K => (He.Fa.glo "GoalLost").ok K,
  fun K => (He.Fa.glo "NothingLeft").ok K,
  fun K => (He.Fa.free "ValueError").ok K,
  fun K => (He.Fa.free "abs").ok K,
  fun K => (He.Fa.free "bool").ok K,
  fun K => (He.Fa.free "int").ok K,
  fun K => (He.Fa.free "isinstance").ok K,
  fun K => (He.Fa.free "len").ok K,
  fun K => (He.Fa.free "list").ok K,
  fun K => (He.Fa.free "min").ok K,
  fun K => (He.Fa.free "range").ok K,
  fun K => (He.Fa.free "str").ok K,
  fun K => (He.Fa.free "tuple").ok K,
  fun K => txB (PySem.Challenge.pw_everymorning_k97_error_classes.main.file : Str) K "OutOfRange",
  fun K => fxB (PySem.Challenge.pw_everymorning_k97_error_classes.main.file : Str) K "OutOfRange" "OutOfRange.__init__",
  fun K => txB (PySem.Challenge.pw_everymorning_k97_error_classes.main.file : Str) K "BadDepot",
  fun K => fxB (PySem.Challenge.pw_everymorning_k97_error_classes.main.file : Str) K "BadDepot" "BadDepot.__init__",
  fun K => txB (PySem.Challenge.pw_everymorning_k97_error_classes.main.file : Str) K "BadBook",
  fun K => fxB (PySem.Challenge.pw_everymorning_k97_error_classes.main.file : Str) K "BadBook" "BadBook.__init__",
  fun K => txB (PySem.Challenge.pw_everymorning_k97_error_classes.main.file : Str) K "BadLives",
  fun K => fxB (PySem.Challenge.pw_everymorning_k97_error_classes.main.file : Str) K "BadLives" "BadLives.__init__",
  fun K => txB (PySem.Challenge.pw_everymorning_k97_error_classes.main.file : Str) K "BadPasses",
  fun K => fxB (PySem.Challenge.pw_everymorning_k97_error_classes.main.file : Str) K "BadPasses" "BadPasses.__init__",
  fun K => txB (PySem.Challenge.pw_everymorning_k97_error_classes.main.file : Str) K "BadCrews",
  fun K => fxB (PySem.Challenge.pw_everymorning_k97_error_classes.main.file : Str) K "BadCrews" "BadCrews.__init__",
  fun K => txB (PySem.Challenge.pw_everymorning_k97_error_classes.main.file : Str) K "BadWish",
  fun K => fxB (PySem.Challenge.pw_everymorning_k97_error_classes.main.file : Str) K "BadWish" "BadWish.__init__",
  fun K => txB (PySem.Challenge.pw_everymorning_k97_error_classes.main.file : Str) K "BadBounds",
  fun K => fxB (PySem.Challenge.pw_everymorning_k97_error_classes.main.file : Str) K "BadBounds" "BadBounds.__init__",
  fun K => txB (PySem.Challenge.pw_everymorning_k97_error_classes.main.file : Str) K "BadNotes",
  fun K => fxB (PySem.Challenge.pw_everymorning_k97_error_classes.main.file : Str) K "BadNotes" "BadNotes.__init__",
  fun K => txB (PySem.Challenge.pw_everymorning_k97_error_classes.main.file : Str) K "BadLists",
  fun K => fxB (PySem.Challenge.pw_everymorning_k97_error_classes.main.file : Str) K "BadLists" "BadLists.__init__",
  fun K => txB (PySem.Challenge.pw_everymorning_k97_error_classes.main.file : Str) K "BadGroup",
  fun K => fxB (PySem.Challenge.pw_everymorning_k97_error_classes.main.file : Str) K "BadGroup" "BadGroup.__init__",
  fun K => txB (PySem.Challenge.pw_everymorning_k97_error_classes.main.file : Str) K "BadCompany",
  fun K => fxB (PySem.Challenge.pw_everymorning_k97_error_classes.main.file : Str) K "BadCompany" "BadCompany.__init__",
  fun K => txB (PySem.Challenge.pw_everymorning_k97_error_classes.main.file : Str) K "BadTerms",
  fun K => fxB (PySem.Challenge.pw_everymorning_k97_error_classes.main.file : Str) K "BadTerms" "BadTerms.__init__",
  fun K => txB (PySem.Challenge.pw_everymorning_k97_error_classes.main.file : Str) K "BadLottery",
  fun K => fxB (PySem.Challenge.pw_everymorning_k97_error_classes.main.file : Str) K "BadLottery" "BadLottery.__init__",
  fun K => txB (PySem.Challenge.pw_everymorning_k97_error_classes.main.file : Str) K "BadLine",
  fun K => fxB (PySem.Challenge.pw_everymorning_k97_error_classes.main.file : Str) K "BadLine" "BadLine.__init__",
  fun K => txB (PySem.Challenge.pw_everymorning_k97_error_classes.main.file : Str) K "NoBook",
  fun K => fxB (PySem.Challenge.pw_everymorning_k97_error_classes.main.file : Str) K "NoBook" "NoBook.__init__",
  fun K => txB (PySem.Challenge.pw_everymorning_k97_error_classes.main.file : Str) K "GoalLost",
  fun K => fxB (PySem.Challenge.pw_everymorning_k97_error_classes.main.file : Str) K "GoalLost" "GoalLost.__init__",
  fun K => nms.all fun x => isCB K x,
  fun K => nms.all fun x => noAt K x "at" && (noAt K x "code" && noAt K x "reason"),
  fun K => kinB K nms,
  fun K => nms.all fun x => kitAB K x "EverymorningError" true && kitAT K x "ValueError" true,
  fun K => exc0B K "NothingLeft"]
abbrev R : PySem.W.OpenRow := PySem.W.OpenLaw.row PySem.Challenge.rw_everymorning_k97_error_classes
abbrev hk : PySem.W.Hook := hookS 5 fs fn fx
def ob (s : PySem.W.SharedT) : AlS := obsSG 5 fs fn fx (HandSHeadRun.getT s)
theorem ob_eq (s : PySem.W.SharedT) : ob s = hk.obs s.abs := obsSG_eq (HandSHeadRun.getT_eq s)
def loose : List Str := ["__name__", "EverymorningError", "OutOfRange", "BadDepot", "BadBook", "BadLives", "BadPasses", "BadCrews", "BadWish", "BadBounds", "BadNotes", "BadLists", "BadGroup", "BadCompany", "BadTerms", "BadLottery", "BadLine", "NoBook", "GoalLost", "NothingLeft", "_law_number", "_law_same", "_law_pool", "_law_take", "_law_great", "_law_integer", "_law_text", "_law_drawn", "_law_made", "_law_kin", "_law_holds"]
theorem run (w : World) : HandSHeadRun.RunEq R (PySem.W.view R.prog [32]) hk ob 6000 loose w := by
  intro os
  kernel_rfl
end K97

set_option Elab.async false
set_option linter.all false
set_option maxRecDepth 100000
set_option maxHeartbeats 4000000
/-! C1: defs that every law has. -/
namespace SL
open PySem PySem.Spec PyProof.Rows L2 SLH
local macro_rules | `(tactic| trivial) => `(tactic| simp only [s_1, s_k1, s_2, s_k2, s_k2', s_cb, s_kA, s_nil, s_cons, s_kC, s_kC', s_c, s_move, s_kMov, s_share, s_kShr, s_lst, s_kLst, s_tup, s_isi, s_tb, s_kTB_sh, s_kTB_br, s_yes, s_and, s_kAnd_t, s_kAnd_f, s_or, s_kOr_t, s_kOr_f, s_not, s_kNot, s_bv, s_kBV, s_andV, s_kAndV_t, s_kAndV_f, s_orV, s_kOrV_t, s_kOrV_f, s_notV, s_kNotV, s_ife, s_kIfE_t, s_kIfE_f, s_ch, s_kCh, s_kCh3, s_call, s_kCall, s_cal, s_bm, s_kBM, s_kBM', s_seq, s_seq_nx, s_seq_rt, s_seq_bk, s_seq_ct, s_seq_ex, s_skip, s_brk, s_cnt, s_retN, s_asg, s_kAsg, s_drop, s_kDrop, s_if, s_kIf_t, s_kIf_f, s_sto_sh, s_sto_br, s_sto_ow, s_stI, s_kStI1, s_kStI2, s_augN, s_kAug1, s_kAug2, s_for, s_lup_nx, s_lup_ct, s_lup_bk, s_lup_rt, s_lup_ex, s_kItm, s_itm, s_range1, s_kR1, s_range2, s_kR2, s_kWh_t, s_kWh_f, s_kLcF, s_kLcT_t, s_kLcT_f, s_kLcG, s_kLcD, s_lc, s_opt, s_optN, s_kAt, s_kSh, s_kBl, s_pk_sh, s_pk_br, s_pk_ow, s_pk_at, s_pkT, s_toD_sh, s_toD_br, s_toD_lst, s_toD_ins, s_item_at, s_itemT, s_item_st, s_item_sl, s_item_ss, s_item_bt, s_item_bl, s_item_ow, s_i0, s_i, s_neg, s_plus, s_plus_s, s_plus_t, s_plus_oo, s_plus_ao, s_plusT, s_times, s_eq, s_ne, s_eqOk_i, s_eqOk_b, s_eqOk_n, s_eqv_i, s_isN, s_len_at, s_lenT, s_len_ow, s_len_s, s_len_st, s_len_sl, s_len_sq, s_len_bt, s_len_bl, s_listOf_sq, s_listOf_st, s_listOf_bt, s_listOf_bl, s_tupOf_ow, s_abs, s_intOf, s_min2, s_max2, s_atL, s_atLT, s_stI3, s_mov_at, s_mov_sh, s_mov_br, s_mov_ow, s_kMv, s_isi', s_ret', s_exc', s_tup', s_kit_int_int, s_kit_int_bool, s_kit_int_str, s_kit_int_list, s_kit_int_tuple, s_kit_bool_int, s_kit_bool_bool, s_kit_bool_str, s_kit_bool_list, s_kit_bool_tuple, s_kit_str_int, s_kit_str_bool, s_kit_str_str, s_kit_str_list, s_kit_str_tuple, s_kit_list_int, s_kit_list_bool, s_kit_list_str, s_kit_list_list, s_kit_list_tuple, s_kit_tuple_int, s_kit_tuple_bool, s_kit_tuple_str, s_kit_tuple_list, s_kit_tuple_tuple, s_kit_NoneType_int, s_kit_NoneType_bool, s_kit_NoneType_str, s_kit_NoneType_list, s_kit_NoneType_tuple, s_of_rt, s_of_nx, s_of_ex, s_c0, s_c1, s_cn, s_var, s_varT_sh, s_varT_br, s_varT_lst, s_varT_ins, s_varT_dT, s_varT_brT, s_adr_un, s_adr_sh, s_adr_br, s_adr_lst, s_adr_ins, s_adr_dT, s_adr_brT, s_owClean_brP, s_argBo_brP, s_okAt_brP, s_pk_brP, s_goes_brP, s_pT_brP, s_brT_int, s_brT_bl, s_brT_str, s_brT_non, s_brT_lst, s_brT_tup, s_brT_ins, s_brT_exc, s_brT_sq, s_brP_int, s_brP_bl, s_brP_str, s_brP_non, s_brP_lst, s_brP_tup, s_brP_ins, s_brP_exc, s_brP_sq, s_eqv_s, s_eqv_b, s_eqOk_s, s_cpow_8, s_cpow_18, s_cpow_20, s_cpow_30, s_cpow_31, s_tyD_bad, s_isNon_bad, s_notBad_bad, s_flatD_bad, s_tyD_non, s_isNon_non, s_notBad_non, s_flatD_non, s_tyD_bl, s_isNon_bl, s_notBad_bl, s_flatD_bl, s_tyD_int, s_isNon_int, s_notBad_int, s_flatD_int, s_tyD_str, s_isNon_str, s_notBad_str, s_flatD_str, s_tyD_obj, s_isNon_obj, s_notBad_obj, s_flatD_obj, s_tyD_lst, s_isNon_lst, s_notBad_lst, s_flatD_lst, s_tyD_tup, s_isNon_tup, s_notBad_tup, s_flatD_tup, s_tyD_ins, s_isNon_ins, s_notBad_ins, s_flatD_ins, s_tyD_sq, s_isNon_sq, s_notBad_sq, s_flatD_sq, s_tyD_exc, s_isNon_exc, s_notBad_exc, s_flatD_exc, s_goes_sh, s_owClean_sh, s_rOk_sh, s_pT_sh, s_shD_sh, s_argT_as_sh, s_argT_bo_sh, s_argT_io_sh, s_goes_br, s_owClean_br, s_rOk_br, s_pT_br, s_shD_br, s_argT_as_br, s_argT_bo_br, s_argT_io_br, s_goes_ow, s_owClean_ow, s_rOk_ow, s_pT_ow, s_shD_ow, s_argT_as_ow, s_argT_bo_ow, s_argT_io_ow, s_goes_at, s_owClean_at, s_rOk_at, s_pT_at, s_shD_at, s_argT_as_at, s_argT_bo_at, s_argT_io_at, s_tP_un, s_cP_un, s_leaf_un, s_tD_un, s_tP_sh, s_cP_sh, s_leaf_sh, s_tD_sh, s_tP_br, s_cP_br, s_leaf_br, s_tD_br, s_tP_lst, s_cP_lst, s_leaf_lst, s_tD_lst, s_tP_ins, s_cP_ins, s_leaf_ins, s_tD_ins, s_tP_dT, s_cP_dT, s_leaf_dT, s_tD_dT, s_bos_brP, s_rOk_brP, s_ret, node, T.at, T.put, putN, shDs, callB, args, ios, bos, back, clean, cleans, fgt, ixN, atI, okS, okB, okO, okA, shs_iD, outs, outT, leaf_ish, len_ish, get_ish, List.getElem?_cons_zero, List.getElem?_cons_succ, List.getElem?_nil, List.cons_append, List.nil_append, List.append_nil, List.length_cons, List.length_nil, Nat.sub_self, List.replicate, Option.bind_some, Option.map_some, Option.bind_none, Option.map_none, Option.getD_some, List.set_cons_zero, List.set_cons_succ, if_true, if_false, Bool.false_eq_true, true_and, and_true, List.map_cons, List.map_nil, forall_const, reduceCtorEq, Bool.not_true, Bool.not_false, List.all_cons, List.all_nil, Bool.and_true, Bool.true_and, Bool.and_self, and_self, Int.cast_ofNat_Int, Nat.reduceAdd, Nat.reduceLT, Nat.reduceLeDiff, Int.reduceLE, Int.reduceLT, Int.reduceAdd, Int.reduceMul, Int.reducePow, Int.reduceNeg, Int.reduceToNat, decide_true, decide_false, List.contains_nil, List.contains_cons, Bool.or_false, Bool.false_or, Nat.reduceBEq, beq_self_eq_true, Bool.not_eq_true, Bool.or_self])
/-! ### the pool -/
structure PoolR where
  b : Addr
  p0 : Int
  p1 : Int
  p2 : Int
  p3 : Int
  ns : List Int
structure PoolR.ok (w : PoolR) : Prop where
  h0 : 0 ≤ w.p0
  h1 : 0 ≤ w.p1
  h1' : w.p1 < 2 ^ 32
  h2 : 0 ≤ w.p2
  h3 : 0 ≤ w.p3
  hn : w.ns.length ≤ 63
def poolT (a : Addr) (w : PoolR) : T := .lst a [.sh (.int w.p0), .sh (.int w.p1), .sh (.int w.p2), .sh (.int w.p3), .lst w.b (ish w.ns)]
theorem clean_ish (ns : List Int) : cleans (ish ns) = true := by
  induction ns with
  | nil => simp [cleans]
  | cons n ns ih => simp [cleans, clean] at ih ⊢; exact ih
theorem clean_pool {a : Addr} {w : PoolR} : clean (poolT a w) = true := by unfold poolT; simp [clean, cleans, clean_ish]
theorem adr_pool {a : Addr} {w : PoolR} : adr (poolT a w) = some a := rfl
theorem var_pool {i : Nat} {S : List T} {K : KP} {a : Addr} {w : PoolR} : varT i S K (some (poolT a w)) = K (.at i []) S := rfl
theorem item_pool {S : List T} {K : KP} {k : Nat} {l : List Nat} {a : Addr} {w : PoolR} : itemT S K k l 0 (some (poolT a w)) = K (.sh (.int w.p0)) S := by unfold poolT; rfl
def W_pool : WS := (wRet (wLst (wCons (wC (.int 0)) (wCons (wC (.int 1)) (wCons (wC (.int 0)) (wCons (wC (.int 0)) (wCons (wCB wListOf (wCons (wVar 0) wNil)) wNil)))))))
def C_pool : Con := fun ts Kr _ => ∃ ns, ts = [.sh (.sq (iD ns))] ∧ ns.length ≤ 63 ∧ ∀ a w, w.ok → Kr (.ow (poolT a w)) ts
theorem shs_iD' {ns : List Int} : (iD ns).map T.sh = ish ns := by simp [ish, iD]
theorem hw_pool (ts : List T) (Kr : P → List T → Prop) (Kx : Ev → List T → Prop) (hl : ts.length = 1) (h : C_pool ts Kr Kx) : W_pool (ts ++ List.replicate (1 - 1) .un) (kOf ts Kr Kx) := by
  obtain ⟨ns, rfl, hn, h⟩ := h
  unfold W_pool
  trivial
  exact fun b a => h a ⟨b, 0, 1, 0, 0, ns⟩ ⟨Int.le_refl 0, by show (0:Int) ≤ 1; omega, by show (1:Int) < 2 ^ 32; omega, Int.le_refl 0, Int.le_refl 0, hn⟩
def W_take : WS := (wSeq (wIf (wAnd (wTB (w2 wEq (w2 wItem (wVar 0) (wC (.int 0))) (wC (.int 0)))) (wTB (w2 wLt (w2 wItem (wVar 0) (wC (.int 3))) (wCB wLen (wCons (w2 wItem (wVar 0) (wC (.int 4))) wNil))))) (wSeq (wAsg (wCB wAbs (wCons (w2 wItem (w2 wItem (wVar 0) (wC (.int 4))) (w2 wItem (wVar 0) (wC (.int 3)))) wNil)) (sto 2))
  (wSeq (wStI (w2 wPlus (w2 wItem (wVar 0) (wC (.int 3))) (wC (.int 1))) (wVar 0) (wC (.int 3)))
  (wIf (wTB (w2 wGe (wVar 2) (w2 wPow (wC (.int 10)) (wC (.int 18))))) (wStI (wVar 2) (wVar 0) (wC (.int 0))) (wStI (w2 wMod (wCB wIntOf (wCons (w2 wPlus (w2 wPlus (w2 wTimes (w2 wItem (wVar 0) (wC (.int 1))) (wC (.int 48271))) (wVar 2)) (wC (.int 1))) wNil)) (wC (.int 2147483399))) (wVar 0) (wC (.int 1)))))) wSkip)
  (wSeq (wIf (wTB (w2 wGt (w2 wItem (wVar 0) (wC (.int 0))) (wC (.int 0)))) (wSeq (wAsg (w2 wMod (wCB wIntOf (wCons (w2 wItem (wVar 0) (wC (.int 0))) wNil)) (wVar 1)) (sto 3))
  (wSeq (wStI (w2 wDiv (w2 wItem (wVar 0) (wC (.int 0))) (wVar 1)) (wVar 0) (wC (.int 0)))
  (wRet (wMove (wVar 3))))) wSkip)
  (wSeq (wAsg (w2 wPlus (w2 wItem (wVar 0) (wC (.int 2))) (wC (.int 1))) (sto 4))
  (wSeq (wStI (wVar 4) (wVar 0) (wC (.int 2)))
  (wSeq (wAsg (w2 wItem (wVar 0) (wC (.int 1))) (sto 5))
  (wSeq (wAsg (w2 wMod (wCB wIntOf (wCons (w2 wPlus (w2 wPlus (w2 wTimes (wVar 5) (wVar 5)) (w2 wTimes (wVar 4) (wC (.int 3571)))) (wC (.int 40692))) wNil)) (wC (.int 2147483399))) (sto 5))
  (wSeq (wAsg (w2 wMod (wCB wIntOf (wCons (w2 wPlus (w2 wTimes (wVar 5) (wVar 5)) (w2 wDiv (wVar 5) (wC (.int 97)))) wNil)) (wC (.int 2147483629))) (sto 5))
  (wSeq (wStI (wVar 5) (wVar 0) (wC (.int 1)))
  (wRet (w2 wMod (wCB wIntOf (wCons (w2 wDiv (wVar 5) (wC (.int 8))) wNil)) (wVar 1)))))))))))
def C_take : Con := fun ts Kr _ => ∃ a w lim, ts = [poolT a w, .sh (.int lim)] ∧ w.ok ∧ 0 < lim ∧ lim < 2 ^ 200 ∧ ∀ r w', w'.ok → 0 ≤ r → r < lim → Kr (.sh (.int r)) [poolT a w', .sh (.int lim)]
theorem c_take {a : Addr} {w : PoolR} {lim : Int} {Kr : P → List T → Prop} {Kx : Ev → List T → Prop} (h : w.ok) (l0 : 0 < lim) (l1 : lim < 2 ^ 200) (k : ∀ r w', w'.ok → 0 ≤ r → r < lim → Kr (.sh (.int r)) [poolT a w', .sh (.int lim)]) : C_take [poolT a w, .sh (.int lim)] Kr Kx := ⟨a, w, lim, rfl, h, l0, l1, k⟩
theorem hw_take (ts : List T) (Kr : P → List T → Prop) (Kx : Ev → List T → Prop) (hl : ts.length = 2) (h : C_take ts Kr Kx) : W_take (ts ++ List.replicate (6 - 2) .un) (kOf ts Kr Kx) := by
  obtain ⟨a, ⟨b, p0, p1, p2, p3, ns⟩, lim, rfl, ⟨h0, h1, h1', h2, h3, hns⟩, hlim, hlim', h⟩ := h
  dsimp only at h0 h1 h1' h2 h3 hns
  unfold W_take
  refine (show ∀ R : WS, (∀ q0 q1 q3 t, 0 ≤ q0 → 0 ≤ q1 → q1 < 2 ^ 32 → 0 ≤ q3 → R [poolT a ⟨b, q0, q1, p2, q3, ns⟩, T.sh (D.int lim), t, .un, .un, .un] (kOf [poolT a ⟨b, p0, p1, p2, p3, ns⟩, T.sh (D.int lim)] Kr Kx)) → wSeq _ R _ _ from fun R hR => ?_) _ ?_
  · unfold poolT at hR ⊢
    trivial
    by_cases e0 : p0 = 0
    · rw [decide_eq_true e0]
      trivial
      by_cases e3 : p3 < ns.length
      · rw [decide_eq_true e3]
        trivial
        have hx : p3.toNat < ns.length := by omega
        rw [ixN_in h3 e3, Option.bind_some, List.getElem?_eq_getElem hx]
        generalize hc : ns[p3.toNat] = z
        trivial
        generalize hv : (if z < 0 then -z else z) = v
        have hv0 : 0 ≤ v := by subst hv; split <;> omega
        by_cases e18 : 1000000000000000000 ≤ v
        · rw [decide_eq_true e18]
          trivial
          exact hR _ _ _ _ hv0 h1 h1' (show 0 ≤ p3 + 1 by omega)
        · rw [decide_eq_false e18]
          trivial
          refine ⟨mulC_r (by omega) (by omega), ?_⟩
          exact hR _ _ _ _ h0 (Int.emod_nonneg _ (by omega)) (Int.lt_trans (Int.emod_lt_of_pos _ (by omega)) (by omega)) (show 0 ≤ p3 + 1 by omega)
      · rw [decide_eq_false e3]
        trivial
        exact hR _ _ _ _ h0 h1 h1' h3
    · rw [decide_eq_false e0]
      trivial
      exact hR _ _ _ _ h0 h1 h1' h3
  · intro q0 q1 q3 t g0 g1 g1' g3
    unfold poolT at h ⊢
    trivial
    by_cases e0 : 0 < q0
    · rw [decide_eq_true e0]
      trivial
      refine ⟨hlim, divC_of hlim (Int.lt_trans hlim' (by decide +kernel)), ?_⟩
      exact h _ ⟨_, _, _, _, _, _⟩ ⟨Int.ediv_nonneg g0 (by omega), g1, g1', h2, g3, hns⟩ (Int.emod_nonneg _ (by omega)) (Int.emod_lt_of_pos _ hlim)
    · rw [decide_eq_false e0]
      trivial
      generalize ea : (q1 * q1 + (p2 + 1) * 3571 + 40692) % 2147483399 = x1
      have ha : 0 ≤ x1 ∧ x1 < 2147483399 := by subst ea; exact ⟨Int.emod_nonneg _ (by omega), Int.emod_lt_of_pos _ (by omega)⟩
      generalize eb : (x1 * x1 + x1 / 97) % 2147483629 = x2
      have hb : 0 ≤ x2 ∧ x2 < 2147483629 := by subst eb; exact ⟨Int.emod_nonneg _ (by omega), Int.emod_lt_of_pos _ (by omega)⟩
      refine ⟨mulC_l (by omega) (by omega), mulC_r (by omega) (by omega), mulC_l (by omega) (by omega), divC_of (by omega) (by decide +kernel), divC_of (by omega) (by decide +kernel), hlim, ?_⟩
      exact h _ ⟨_, _, _, _, _, _⟩ ⟨g0, by show 0 ≤ x2; omega, by show x2 < 2 ^ 32; omega, by show 0 ≤ p2 + 1; omega, g3, hns⟩ (Int.emod_nonneg _ (by omega)) (Int.emod_lt_of_pos _ hlim)
end SL

set_option Elab.async false
set_option linter.all false
set_option maxRecDepth 100000
set_option maxHeartbeats 4000000
/-! C2: great, number, same. -/
namespace SL
open PySem PySem.Spec PyProof.Rows L2 SLH
local macro_rules | `(tactic| trivial) => `(tactic| simp only [s_1, s_k1, s_2, s_k2, s_k2', s_cb, s_kA, s_nil, s_cons, s_kC, s_kC', s_c, s_move, s_kMov, s_share, s_kShr, s_lst, s_kLst, s_tup, s_isi, s_tb, s_kTB_sh, s_kTB_br, s_yes, s_and, s_kAnd_t, s_kAnd_f, s_or, s_kOr_t, s_kOr_f, s_not, s_kNot, s_bv, s_kBV, s_andV, s_kAndV_t, s_kAndV_f, s_orV, s_kOrV_t, s_kOrV_f, s_notV, s_kNotV, s_ife, s_kIfE_t, s_kIfE_f, s_ch, s_kCh, s_kCh3, s_call, s_kCall, s_cal, s_bm, s_kBM, s_kBM', s_seq, s_seq_nx, s_seq_rt, s_seq_bk, s_seq_ct, s_seq_ex, s_skip, s_brk, s_cnt, s_retN, s_asg, s_kAsg, s_drop, s_kDrop, s_if, s_kIf_t, s_kIf_f, s_sto_sh, s_sto_br, s_sto_ow, s_stI, s_kStI1, s_kStI2, s_augN, s_kAug1, s_kAug2, s_for, s_lup_nx, s_lup_ct, s_lup_bk, s_lup_rt, s_lup_ex, s_kItm, s_itm, s_range1, s_kR1, s_range2, s_kR2, s_kWh_t, s_kWh_f, s_kLcF, s_kLcT_t, s_kLcT_f, s_kLcG, s_kLcD, s_lc, s_opt, s_optN, s_kAt, s_kSh, s_kBl, s_pk_sh, s_pk_br, s_pk_ow, s_pk_at, s_pkT, s_toD_sh, s_toD_br, s_toD_lst, s_toD_ins, s_item_at, s_itemT, s_item_st, s_item_sl, s_item_ss, s_item_bt, s_item_bl, s_item_ow, s_i0, s_i, s_neg, s_plus, s_plus_s, s_plus_t, s_plus_oo, s_plus_ao, s_plusT, s_times, s_eq, s_ne, s_eqOk_i, s_eqOk_b, s_eqOk_n, s_eqv_i, s_isN, s_len_at, s_lenT, s_len_ow, s_len_s, s_len_st, s_len_sl, s_len_sq, s_len_bt, s_len_bl, s_listOf_sq, s_listOf_st, s_listOf_bt, s_listOf_bl, s_tupOf_ow, s_abs, s_intOf, s_min2, s_max2, s_atL, s_atLT, s_stI3, s_mov_at, s_mov_sh, s_mov_br, s_mov_ow, s_kMv, s_isi', s_ret', s_exc', s_tup', s_kit_int_int, s_kit_int_bool, s_kit_int_str, s_kit_int_list, s_kit_int_tuple, s_kit_bool_int, s_kit_bool_bool, s_kit_bool_str, s_kit_bool_list, s_kit_bool_tuple, s_kit_str_int, s_kit_str_bool, s_kit_str_str, s_kit_str_list, s_kit_str_tuple, s_kit_list_int, s_kit_list_bool, s_kit_list_str, s_kit_list_list, s_kit_list_tuple, s_kit_tuple_int, s_kit_tuple_bool, s_kit_tuple_str, s_kit_tuple_list, s_kit_tuple_tuple, s_kit_NoneType_int, s_kit_NoneType_bool, s_kit_NoneType_str, s_kit_NoneType_list, s_kit_NoneType_tuple, s_of_rt, s_of_nx, s_of_ex, s_c0, s_c1, s_cn, s_var, s_varT_sh, s_varT_br, s_varT_lst, s_varT_ins, s_varT_dT, s_varT_brT, s_adr_un, s_adr_sh, s_adr_br, s_adr_lst, s_adr_ins, s_adr_dT, s_adr_brT, s_owClean_brP, s_argBo_brP, s_okAt_brP, s_pk_brP, s_goes_brP, s_pT_brP, s_brT_int, s_brT_bl, s_brT_str, s_brT_non, s_brT_lst, s_brT_tup, s_brT_ins, s_brT_exc, s_brT_sq, s_brP_int, s_brP_bl, s_brP_str, s_brP_non, s_brP_lst, s_brP_tup, s_brP_ins, s_brP_exc, s_brP_sq, s_eqv_s, s_eqv_b, s_eqOk_s, s_cpow_8, s_cpow_18, s_cpow_20, s_cpow_30, s_cpow_31, s_tyD_bad, s_isNon_bad, s_notBad_bad, s_flatD_bad, s_tyD_non, s_isNon_non, s_notBad_non, s_flatD_non, s_tyD_bl, s_isNon_bl, s_notBad_bl, s_flatD_bl, s_tyD_int, s_isNon_int, s_notBad_int, s_flatD_int, s_tyD_str, s_isNon_str, s_notBad_str, s_flatD_str, s_tyD_obj, s_isNon_obj, s_notBad_obj, s_flatD_obj, s_tyD_lst, s_isNon_lst, s_notBad_lst, s_flatD_lst, s_tyD_tup, s_isNon_tup, s_notBad_tup, s_flatD_tup, s_tyD_ins, s_isNon_ins, s_notBad_ins, s_flatD_ins, s_tyD_sq, s_isNon_sq, s_notBad_sq, s_flatD_sq, s_tyD_exc, s_isNon_exc, s_notBad_exc, s_flatD_exc, s_goes_sh, s_owClean_sh, s_rOk_sh, s_pT_sh, s_shD_sh, s_argT_as_sh, s_argT_bo_sh, s_argT_io_sh, s_goes_br, s_owClean_br, s_rOk_br, s_pT_br, s_shD_br, s_argT_as_br, s_argT_bo_br, s_argT_io_br, s_goes_ow, s_owClean_ow, s_rOk_ow, s_pT_ow, s_shD_ow, s_argT_as_ow, s_argT_bo_ow, s_argT_io_ow, s_goes_at, s_owClean_at, s_rOk_at, s_pT_at, s_shD_at, s_argT_as_at, s_argT_bo_at, s_argT_io_at, s_tP_un, s_cP_un, s_leaf_un, s_tD_un, s_tP_sh, s_cP_sh, s_leaf_sh, s_tD_sh, s_tP_br, s_cP_br, s_leaf_br, s_tD_br, s_tP_lst, s_cP_lst, s_leaf_lst, s_tD_lst, s_tP_ins, s_cP_ins, s_leaf_ins, s_tD_ins, s_tP_dT, s_cP_dT, s_leaf_dT, s_tD_dT, s_bos_brP, s_rOk_brP, s_ret, node, T.at, T.put, putN, shDs, callB, args, ios, bos, back, clean, cleans, fgt, ixN, atI, okS, okB, okO, okA, shs_iD, outs, outT, leaf_ish, len_ish, get_ish, List.getElem?_cons_zero, List.getElem?_cons_succ, List.getElem?_nil, List.cons_append, List.nil_append, List.append_nil, List.length_cons, List.length_nil, Nat.sub_self, List.replicate, Option.bind_some, Option.map_some, Option.bind_none, Option.map_none, Option.getD_some, List.set_cons_zero, List.set_cons_succ, if_true, if_false, Bool.false_eq_true, true_and, and_true, List.map_cons, List.map_nil, forall_const, reduceCtorEq, Bool.not_true, Bool.not_false, List.all_cons, List.all_nil, Bool.and_true, Bool.true_and, Bool.and_self, and_self, Int.cast_ofNat_Int, Nat.reduceAdd, Nat.reduceLT, Nat.reduceLeDiff, Int.reduceLE, Int.reduceLT, Int.reduceAdd, Int.reduceMul, Int.reducePow, Int.reduceNeg, Int.reduceToNat, decide_true, decide_false, List.contains_nil, List.contains_cons, Bool.or_false, Bool.false_or, Nat.reduceBEq, beq_self_eq_true, Bool.not_eq_true, Bool.or_self, clean_pool, adr_pool, item_pool, var_pool])
def W_great (C_law_take : Con) : WS := (wSeq (wAsg (wCall 2 C_law_take [.io, .as] (wCons (wVar 0) (wCons (wC (.int 4)) wNil))) (sto 2))
  (wSeq (wIf (wTB (w2 wLt (wVar 2) (wC (.int 2)))) (wRet (wCB wMin2 (wCons (wVar 1) (wCons (wCall 2 C_law_take [.io, .as] (wCons (wVar 0) (wCons (wC (.int 40)) wNil))) wNil)))) wSkip)
  (wSeq (wIf (wTB (w2 wEq (wVar 2) (wC (.int 2)))) (wRet (wCB wMin2 (wCons (wVar 1) (wCons (wCall 2 C_law_take [.io, .as] (wCons (wVar 0) (wCons (wC (.int 4000)) wNil))) wNil)))) wSkip)
  (wSeq (wIf (wTB (w2 wGt (w2 wItem (wVar 0) (wC (.int 0))) (wVar 1))) (wRet (wCall 2 C_law_take [.io, .as] (wCons (wVar 0) (wCons (w2 wPlus (wVar 1) (wC (.int 1))) wNil)))) wSkip)
  (wSeq (wAsg (wC (.int 0)) (sto 3))
  (wSeq (wFor (wRange1 (wCons (wC (.int 4)) wNil)) (sto 4) (wAsg (w2 wPlus (w2 wTimes (wVar 3) (w2 wPow (wC (.int 10)) (wC (.int 8)))) (wCall 2 C_law_take [.io, .as] (wCons (wVar 0) (wCons (w2 wPow (wC (.int 10)) (wC (.int 8))) wNil)))) (sto 3)))
  (wRet (w2 wMod (wCB wIntOf (wCons (wVar 3) wNil)) (w2 wPlus (wVar 1) (wC (.int 1)))))))))))
def C_great : Con := fun ts Kr _ => ∃ a w most, ts = [poolT a w, .sh (.int most)] ∧ w.ok ∧ 0 ≤ most ∧ most < 2 ^ 190 ∧ ∀ r w', w'.ok → 0 ≤ r → r ≤ most → Kr (.sh (.int r)) [poolT a w', .sh (.int most)]
theorem c_great {a : Addr} {w : PoolR} {lim : Int} {Kr : P → List T → Prop} {Kx : Ev → List T → Prop} (h : w.ok) (l0 : 0 ≤ lim) (l1 : lim < 2 ^ 190) (k : ∀ r w', w'.ok → 0 ≤ r → r ≤ lim → Kr (.sh (.int r)) [poolT a w', .sh (.int lim)]) : C_great [poolT a w, .sh (.int lim)] Kr Kx := ⟨a, w, lim, rfl, h, l0, l1, k⟩
theorem hw_great (ts : List T) (Kr : P → List T → Prop) (Kx : Ev → List T → Prop) (hl : ts.length = 2) (h : C_great ts Kr Kx) : W_great C_take (ts ++ List.replicate (5 - 2) .un) (kOf ts Kr Kx) := by
  obtain ⟨a, w, most, rfl, hw, m0, m1, h⟩ := h
  unfold W_great
  trivial

  refine c_take hw (by omega) (by omega) fun r w1 hw1 r0 r1 => ?_
  trivial
  by_cases e2 : r < 2
  · rw [decide_eq_true e2]
    trivial
    refine c_take hw1 (by omega) (by omega) fun r' w2 hw2 r0' r1' => ?_
    trivial
    exact h (min most r') _ hw2 (by omega) (by omega)
  rw [decide_eq_false e2]
  trivial
  by_cases e2 : r = 2
  · rw [decide_eq_true e2]
    trivial
    refine c_take hw1 (by omega) (by omega) fun r' w2 hw2 r0' r1' => ?_
    trivial
    exact h (min most r') _ hw2 (by omega) (by omega)
  rw [decide_eq_false e2]
  trivial
  by_cases e2 : most < w1.p0
  · rw [decide_eq_true e2]
    trivial
    refine c_take hw1 (by omega) (by omega) fun r' w2 hw2 r0' r1' => ?_
    trivial
    exact h r' _ hw2 (by omega) (by omega)
  rw [decide_eq_false e2]
  trivial
  refine lup_rng (fun i S => ∃ w2 g t, w2.ok ∧ 0 ≤ g ∧ S = [poolT a w2, .sh (.int most), .sh (.int r), .sh (.int g), t]) ⟨w1, 0, _, hw1, by omega, rfl⟩ ?_ ?_
  · rintro i J S hi hJ ⟨w2, g, t, hw2, hg, rfl⟩
    trivial
    refine ⟨mulC_r (by omega) (by omega), ?_⟩
    refine c_take hw2 (by omega) (by omega) fun r' w3 hw3 r0' r1' => ?_
    trivial
    exact hJ _ ⟨w3, g * 100000000 + r', _, hw3, by omega, rfl⟩
  · rintro S ⟨w2, g, t, hw2, hg, rfl⟩
    trivial
    refine ⟨by omega, h _ _ hw2 (Int.emod_nonneg _ (by omega)) ?_⟩
    have := Int.emod_lt_of_pos g (show 0 < most + 1 by omega)
    omega
end SL

set_option Elab.async false
set_option linter.all false
set_option maxRecDepth 100000
set_option maxHeartbeats 4000000
/-! C3: number, same. -/
namespace SL
open PySem PySem.Spec PyProof.Rows L2 SLH
local macro_rules | `(tactic| trivial) => `(tactic| simp only [s_1, s_k1, s_2, s_k2, s_k2', s_cb, s_kA, s_nil, s_cons, s_kC, s_kC', s_c, s_move, s_kMov, s_share, s_kShr, s_lst, s_kLst, s_tup, s_isi, s_tb, s_kTB_sh, s_kTB_br, s_yes, s_and, s_kAnd_t, s_kAnd_f, s_or, s_kOr_t, s_kOr_f, s_not, s_kNot, s_bv, s_kBV, s_andV, s_kAndV_t, s_kAndV_f, s_orV, s_kOrV_t, s_kOrV_f, s_notV, s_kNotV, s_ife, s_kIfE_t, s_kIfE_f, s_ch, s_kCh, s_kCh3, s_call, s_kCall, s_cal, s_bm, s_kBM, s_kBM', s_seq, s_seq_nx, s_seq_rt, s_seq_bk, s_seq_ct, s_seq_ex, s_skip, s_brk, s_cnt, s_retN, s_asg, s_kAsg, s_drop, s_kDrop, s_if, s_kIf_t, s_kIf_f, s_sto_sh, s_sto_br, s_sto_ow, s_stI, s_kStI1, s_kStI2, s_augN, s_kAug1, s_kAug2, s_for, s_lup_nx, s_lup_ct, s_lup_bk, s_lup_rt, s_lup_ex, s_kItm, s_itm, s_range1, s_kR1, s_range2, s_kR2, s_kWh_t, s_kWh_f, s_kLcF, s_kLcT_t, s_kLcT_f, s_kLcG, s_kLcD, s_lc, s_opt, s_optN, s_kAt, s_kSh, s_kBl, s_pk_sh, s_pk_br, s_pk_ow, s_pk_at, s_pkT, s_toD_sh, s_toD_br, s_toD_lst, s_toD_ins, s_item_at, s_itemT, s_item_st, s_item_sl, s_item_ss, s_item_bt, s_item_bl, s_item_ow, s_i0, s_i, s_neg, s_plus, s_plus_s, s_plus_t, s_plus_oo, s_plus_ao, s_plusT, s_times, s_eq, s_ne, s_eqOk_i, s_eqOk_b, s_eqOk_n, s_eqv_i, s_isN, s_len_at, s_lenT, s_len_ow, s_len_s, s_len_st, s_len_sl, s_len_sq, s_len_bt, s_len_bl, s_listOf_sq, s_listOf_st, s_listOf_bt, s_listOf_bl, s_tupOf_ow, s_abs, s_intOf, s_min2, s_max2, s_atL, s_atLT, s_stI3, s_mov_at, s_mov_sh, s_mov_br, s_mov_ow, s_kMv, s_isi', s_ret', s_exc', s_tup', s_kit_int_int, s_kit_int_bool, s_kit_int_str, s_kit_int_list, s_kit_int_tuple, s_kit_bool_int, s_kit_bool_bool, s_kit_bool_str, s_kit_bool_list, s_kit_bool_tuple, s_kit_str_int, s_kit_str_bool, s_kit_str_str, s_kit_str_list, s_kit_str_tuple, s_kit_list_int, s_kit_list_bool, s_kit_list_str, s_kit_list_list, s_kit_list_tuple, s_kit_tuple_int, s_kit_tuple_bool, s_kit_tuple_str, s_kit_tuple_list, s_kit_tuple_tuple, s_kit_NoneType_int, s_kit_NoneType_bool, s_kit_NoneType_str, s_kit_NoneType_list, s_kit_NoneType_tuple, s_of_rt, s_of_nx, s_of_ex, s_c0, s_c1, s_cn, s_var, s_varT_sh, s_varT_br, s_varT_lst, s_varT_ins, s_varT_dT, s_varT_brT, s_adr_un, s_adr_sh, s_adr_br, s_adr_lst, s_adr_ins, s_adr_dT, s_adr_brT, s_owClean_brP, s_argBo_brP, s_okAt_brP, s_pk_brP, s_goes_brP, s_pT_brP, s_brT_int, s_brT_bl, s_brT_str, s_brT_non, s_brT_lst, s_brT_tup, s_brT_ins, s_brT_exc, s_brT_sq, s_brP_int, s_brP_bl, s_brP_str, s_brP_non, s_brP_lst, s_brP_tup, s_brP_ins, s_brP_exc, s_brP_sq, s_eqv_s, s_eqv_b, s_eqOk_s, s_cpow_8, s_cpow_18, s_cpow_20, s_cpow_30, s_cpow_31, s_tyD_bad, s_isNon_bad, s_notBad_bad, s_flatD_bad, s_tyD_non, s_isNon_non, s_notBad_non, s_flatD_non, s_tyD_bl, s_isNon_bl, s_notBad_bl, s_flatD_bl, s_tyD_int, s_isNon_int, s_notBad_int, s_flatD_int, s_tyD_str, s_isNon_str, s_notBad_str, s_flatD_str, s_tyD_obj, s_isNon_obj, s_notBad_obj, s_flatD_obj, s_tyD_lst, s_isNon_lst, s_notBad_lst, s_flatD_lst, s_tyD_tup, s_isNon_tup, s_notBad_tup, s_flatD_tup, s_tyD_ins, s_isNon_ins, s_notBad_ins, s_flatD_ins, s_tyD_sq, s_isNon_sq, s_notBad_sq, s_flatD_sq, s_tyD_exc, s_isNon_exc, s_notBad_exc, s_flatD_exc, s_goes_sh, s_owClean_sh, s_rOk_sh, s_pT_sh, s_shD_sh, s_argT_as_sh, s_argT_bo_sh, s_argT_io_sh, s_goes_br, s_owClean_br, s_rOk_br, s_pT_br, s_shD_br, s_argT_as_br, s_argT_bo_br, s_argT_io_br, s_goes_ow, s_owClean_ow, s_rOk_ow, s_pT_ow, s_shD_ow, s_argT_as_ow, s_argT_bo_ow, s_argT_io_ow, s_goes_at, s_owClean_at, s_rOk_at, s_pT_at, s_shD_at, s_argT_as_at, s_argT_bo_at, s_argT_io_at, s_tP_un, s_cP_un, s_leaf_un, s_tD_un, s_tP_sh, s_cP_sh, s_leaf_sh, s_tD_sh, s_tP_br, s_cP_br, s_leaf_br, s_tD_br, s_tP_lst, s_cP_lst, s_leaf_lst, s_tD_lst, s_tP_ins, s_cP_ins, s_leaf_ins, s_tD_ins, s_tP_dT, s_cP_dT, s_leaf_dT, s_tD_dT, s_bos_brP, s_rOk_brP, s_ret, node, T.at, T.put, putN, shDs, callB, args, ios, bos, back, clean, cleans, fgt, ixN, atI, okS, okB, okO, okA, shs_iD, outs, outT, leaf_ish, len_ish, get_ish, List.getElem?_cons_zero, List.getElem?_cons_succ, List.getElem?_nil, List.cons_append, List.nil_append, List.append_nil, List.length_cons, List.length_nil, Nat.sub_self, List.replicate, Option.bind_some, Option.map_some, Option.bind_none, Option.map_none, Option.getD_some, List.set_cons_zero, List.set_cons_succ, if_true, if_false, Bool.false_eq_true, true_and, and_true, List.map_cons, List.map_nil, forall_const, reduceCtorEq, Bool.not_true, Bool.not_false, List.all_cons, List.all_nil, Bool.and_true, Bool.true_and, Bool.and_self, and_self, Int.cast_ofNat_Int, Nat.reduceAdd, Nat.reduceLT, Nat.reduceLeDiff, Int.reduceLE, Int.reduceLT, Int.reduceAdd, Int.reduceMul, Int.reducePow, Int.reduceNeg, Int.reduceToNat, decide_true, decide_false, List.contains_nil, List.contains_cons, Bool.or_false, Bool.false_or, Nat.reduceBEq, beq_self_eq_true, Bool.not_eq_true, Bool.or_self])
def W_number : WS := (wRet (wAndV (wIsi "int" (wVar 0)) (wNotV (wIsi "bool" (wVar 0)))))
def numD : D → Bool
  | .int _ => true
  | _ => false
/-- plain data of a law -/
def lawD : Nat → D → Prop
  | _, .non => True
  | _, .bl _ => True
  | _, .int _ => True
  | _, .str x => PyData.strOk x = true
  | n + 1, .lst xs => xs.length < 2 ^ 62 ∧ ∀ x ∈ xs, lawD n x
  | n + 1, .tup xs => xs.length < 2 ^ 62 ∧ ∀ x ∈ xs, lawD n x
  | _, _ => False
def C_number : Con := fun ts Kr _ => ∃ d, ts = [brT d] ∧ (tyD d).isSome = true ∧ Kr (.sh (.bl (numD d))) ts
theorem hw_number (ts : List T) (Kr : P → List T → Prop) (Kx : Ev → List T → Prop) (hl : ts.length = 1) (h : C_number ts Kr Kx) : W_number (ts ++ List.replicate (1 - 1) .un) (kOf ts Kr Kx) := by
  obtain ⟨d, rfl, hd, h⟩ := h
  unfold W_number
  cases d <;> simp only [tyD, Option.isSome_none, Bool.false_eq_true] at hd
  all_goals (simp only [brT, flatD, numD, if_true, if_false, Bool.false_eq_true] at h ⊢; trivial; exact h)
def W_same (C_law_number : Con) (C_law_same : Con) : WS := (wSeq (wIf (wTB (w1 (wIsN false) (wVar 1))) (wRet (w1 (wIsN false) (wVar 0))) wSkip)
  (wSeq (wIf (wTB (wIsi "bool" (wVar 1))) (wRet (wAndV (wIsi "bool" (wVar 0)) (w2 wEq (wVar 0) (wVar 1)))) wSkip)
  (wSeq (wIf (wTB (wIsi "int" (wVar 1))) (wRet (wAndV (wCall 1 C_law_number [.bo] (wCons (wVar 0) wNil)) (w2 wEq (wVar 0) (wVar 1)))) wSkip)
  (wSeq (wIf (wTB (wIsi "str" (wVar 1))) (wRet (wAndV (wIsi "str" (wVar 0)) (w2 wEq (wVar 0) (wVar 1)))) wSkip)
  (wSeq (wIf (wAnd (wTB (wIsi "list" (wVar 1))) (wNot (wTB (wIsi "list" (wVar 0))))) (wRet (wC (.bl false))) wSkip)
  (wSeq (wIf (wAnd (wTB (wIsi "tuple" (wVar 1))) (wNot (wTB (wIsi "tuple" (wVar 0))))) (wRet (wC (.bl false))) wSkip)
  (wSeq (wIf (wTB (w2 wNe (wCB wLen (wCons (wVar 0) wNil)) (wCB wLen (wCons (wVar 1) wNil)))) (wRet (wC (.bl false))) wSkip)
  (wSeq (wFor (wRange1 (wCons (wCB wLen (wCons (wVar 1) wNil)) wNil)) (sto 2) (wIf (wNot (wTB (wCall 2 C_law_same [.bo, .bo] (wCons (w2 wItem (wVar 0) (wVar 2)) (wCons (w2 wItem (wVar 1) (wVar 2)) wNil))))) (wRet (wC (.bl false))) wSkip))
  (wRet (wC (.bl true)))))))))))
open Classical in
def C_same (n : Nat) : Con := fun ts Kr _ => ∃ g d, ts = [brT g, brT d] ∧ lawD n g ∧ lawD n d ∧ Kr (.sh (.bl (decide (g = d)))) ts
theorem lawD_ty : ∀ {n : Nat} {d : D}, lawD n d → (tyD d).isSome = true
  | 0, d, h => by cases d <;> first | rfl | (simp [lawD] at h; done)
  | n + 1, d, h => by cases d <;> first | rfl | (simp [lawD] at h; done)
theorem atI_nat {α : Type} {xs : List α} {i : Nat} {x : α} (h : xs[i]? = some x) : atI xs (i : Int) = some x := by
  have hi : i < xs.length := (List.getElem?_eq_some_iff.mp h).1
  unfold atI ixN
  rw [if_pos (by omega), if_pos (by omega)]
  simpa using h
open Classical in
theorem c_same {n : Nat} {g d : D} {Kr : P → List T → Prop} {Kx : Ev → List T → Prop} (hg : lawD n g) (hd : lawD n d) (h1 : g = d → Kr (.sh (.bl true)) [brT g, brT d]) (h2 : g ≠ d → Kr (.sh (.bl false)) [brT g, brT d]) : C_same n [brT g, brT d] Kr Kx := by
  refine ⟨g, d, rfl, hg, hd, ?_⟩
  by_cases e : g = d
  · rw [decide_eq_true e]; exact h1 e
  · rw [decide_eq_false e]; exact h2 e
theorem lsEq {α : Type} {xs ys : List α} (hl : xs.length = ys.length) (h : ∀ (i : Nat) (x y : α), xs[i]? = some x → ys[i]? = some y → x = y) : xs = ys := by
  apply List.ext_getElem? ; intro i
  cases hx : xs[i]? with
  | none =>
    have := List.getElem?_eq_none_iff.mp hx
    exact (List.getElem?_eq_none_iff.mpr (by omega)).symm
  | some x =>
    have hi : i < xs.length := (List.getElem?_eq_some_iff.mp hx).1
    have hy : ys[i]? = some (ys[i]'(by omega)) := List.getElem?_eq_getElem _
    rw [hy, h i x _ hx hy]
theorem c_number {d : D} {Kr : P → List T → Prop} {Kx : Ev → List T → Prop} (h : (tyD d).isSome = true) (k : Kr (.sh (.bl (numD d))) [brT d]) : C_number [brT d] Kr Kx := ⟨d, rfl, h, k⟩
theorem fin_same {p : Prop} {b : Bool} {i : Decidable p} {Q : Bool → Prop} (h : Q (@decide p i)) (e : p ↔ b = true) : Q b := by
  have : @decide p i = b := by cases b <;> simp_all
  rwa [← this]
theorem hw_same (n : Nat) (ts : List T) (Kr : P → List T → Prop) (Kx : Ev → List T → Prop) (hl : ts.length = 2) (h : C_same (n + 1) ts Kr Kx) : W_same C_number (C_same n) (ts ++ List.replicate (3 - 2) .un) (kOf ts Kr Kx) := by
  obtain ⟨g, d, rfl, hg, hd, h⟩ := h
  unfold W_same
  have hgt := lawD_ty hg
  cases d with
  | non =>
    trivial
    cases g <;> first | (simp [lawD] at hg; done) | skip
    all_goals (trivial; exact fin_same (Q := fun b => Kr (.sh (.bl b)) _) h (by simp))
  | bl b =>
    trivial
    cases g <;> first | (simp [lawD] at hg; done) | skip
    all_goals (trivial; exact fin_same (Q := fun b => Kr (.sh (.bl b)) _) h (by simp))
  | int i =>
    trivial
    refine c_number hgt ?_
    cases g <;> first | (simp [lawD] at hg; done) | skip
    all_goals (unfold numD; trivial; exact fin_same (Q := fun b => Kr (.sh (.bl b)) _) h (by simp))
  | str x =>
    trivial
    cases g <;> first | (simp [lawD] at hg; done) | skip
    all_goals trivial
    case str.str y => exact ⟨hg, hd, fin_same (Q := fun b => Kr (.sh (.bl b)) _) h (by simp)⟩
    all_goals (exact fin_same (Q := fun b => Kr (.sh (.bl b)) _) h (by simp))
  | lst ds =>
    trivial
    cases g with
    | lst gs =>
      trivial
      obtain ⟨gl, gs1⟩ := hg
      obtain ⟨dl, ds1⟩ := hd
      by_cases el : (gs.length : Int) = ds.length
      · have el' : gs.length = ds.length := by omega
        rw [decide_eq_true el]
        trivial
        refine ⟨by omega, by omega, ?_⟩
        refine lup_rng (fun i S => ∃ t, S = [.br (.lst gs), .br (.lst ds), t] ∧ ∀ (j : Nat) (x y : D), j < i → gs[j]? = some x → ds[j]? = some y → x = y) ⟨_, rfl, fun j x y hj => absurd hj (by omega)⟩ ?_ ?_
        · rintro i J S hi hJ ⟨t, rfl, hI⟩
          have hi' : i < ds.length := by omega
          obtain ⟨x, hx⟩ : ∃ x, gs[i]? = some x := ⟨_, List.getElem?_eq_getElem (by omega)⟩
          obtain ⟨y, hy⟩ : ∃ x, ds[i]? = some x := ⟨_, List.getElem?_eq_getElem hi'⟩
          rw [Int.zero_add]
          trivial
          have ax := atI_nat hx
          have ay := atI_nat hy
          unfold atI ixN at ax ay
          rw [ax]
          trivial
          rw [ay]
          trivial
          refine c_same (gs1 x (List.mem_of_getElem? hx)) (ds1 y (List.mem_of_getElem? hy)) (fun e => ?_) fun e => ?_
          · trivial
            refine hJ _ ⟨_, rfl, fun j u v hj hu hv => ?_⟩
            by_cases ej : j = i
            · subst ej; rw [hx] at hu; rw [hy] at hv; cases hu; cases hv; exact e
            · exact hI j u v (by omega) hu hv
          · trivial
            refine fin_same (Q := fun b => Kr (.sh (.bl b)) _) h ?_
            constructor
            · intro q; cases q; rw [hx] at hy; cases hy; exact absurd rfl e
            · intro q; cases q
        · rintro S ⟨t, rfl, hI⟩
          trivial
          refine fin_same (Q := fun b => Kr (.sh (.bl b)) _) h ⟨fun _ => rfl, fun _ => ?_⟩
          rw [lsEq el' fun i x y hx hy => hI i x y (by have := (List.getElem?_eq_some_iff.mp hx).1; omega) hx hy]
      · rw [decide_eq_false el]
        trivial
        exact fin_same (Q := fun b => Kr (.sh (.bl b)) _) h ⟨fun e => by cases e; exact absurd rfl el, fun e => by cases e⟩
    | _ => 
      first
      | (simp [lawD] at hg; done)
      | (trivial; exact fin_same (Q := fun b => Kr (.sh (.bl b)) _) h (by simp))
  | tup ds =>
    trivial
    cases g with
    | tup gs =>
      trivial
      obtain ⟨gl, gs1⟩ := hg
      obtain ⟨dl, ds1⟩ := hd
      by_cases el : (gs.length : Int) = ds.length
      · have el' : gs.length = ds.length := by omega
        rw [decide_eq_true el]
        trivial
        refine ⟨by omega, by omega, ?_⟩
        refine lup_rng (fun i S => ∃ t, S = [.br (.tup gs), .br (.tup ds), t] ∧ ∀ (j : Nat) (x y : D), j < i → gs[j]? = some x → ds[j]? = some y → x = y) ⟨_, rfl, fun j x y hj => absurd hj (by omega)⟩ ?_ ?_
        · rintro i J S hi hJ ⟨t, rfl, hI⟩
          have hi' : i < ds.length := by omega
          obtain ⟨x, hx⟩ : ∃ x, gs[i]? = some x := ⟨_, List.getElem?_eq_getElem (by omega)⟩
          obtain ⟨y, hy⟩ : ∃ x, ds[i]? = some x := ⟨_, List.getElem?_eq_getElem hi'⟩
          rw [Int.zero_add]
          trivial
          have ax := atI_nat hx
          have ay := atI_nat hy
          unfold atI ixN at ax ay
          rw [ax]
          trivial
          rw [ay]
          trivial
          refine c_same (gs1 x (List.mem_of_getElem? hx)) (ds1 y (List.mem_of_getElem? hy)) (fun e => ?_) fun e => ?_
          · trivial
            refine hJ _ ⟨_, rfl, fun j u v hj hu hv => ?_⟩
            by_cases ej : j = i
            · subst ej; rw [hx] at hu; rw [hy] at hv; cases hu; cases hv; exact e
            · exact hI j u v (by omega) hu hv
          · trivial
            refine fin_same (Q := fun b => Kr (.sh (.bl b)) _) h ?_
            constructor
            · intro q; cases q; rw [hx] at hy; cases hy; exact absurd rfl e
            · intro q; cases q
        · rintro S ⟨t, rfl, hI⟩
          trivial
          refine fin_same (Q := fun b => Kr (.sh (.bl b)) _) h ⟨fun _ => rfl, fun _ => ?_⟩
          rw [lsEq el' fun i x y hx hy => hI i x y (by have := (List.getElem?_eq_some_iff.mp hx).1; omega) hx hy]
      · rw [decide_eq_false el]
        trivial
        exact fin_same (Q := fun b => Kr (.sh (.bl b)) _) h ⟨fun e => by cases e; exact absurd rfl el, fun e => by cases e⟩
    | _ => 
      first
      | (simp [lawD] at hg; done)
      | (trivial; exact fin_same (Q := fun b => Kr (.sh (.bl b)) _) h (by simp))
  | _ => simp [lawD] at hd
theorem hw_same0 (ts : List T) (Kr : P → List T → Prop) (Kx : Ev → List T → Prop) (hl : ts.length = 2) (h : C_same 0 ts Kr Kx) : W_same C_number never (ts ++ List.replicate (3 - 2) .un) (kOf ts Kr Kx) := by
  obtain ⟨g, d, rfl, hg, hd, h⟩ := h
  unfold W_same
  have hgt := lawD_ty hg
  cases d with
  | non =>
    trivial
    cases g <;> first | (simp [lawD] at hg; done) | skip
    all_goals (trivial; exact fin_same (Q := fun b => Kr (.sh (.bl b)) _) h (by simp))
  | bl b =>
    trivial
    cases g <;> first | (simp [lawD] at hg; done) | skip
    all_goals (trivial; exact fin_same (Q := fun b => Kr (.sh (.bl b)) _) h (by simp))
  | int i =>
    trivial
    refine c_number hgt ?_
    cases g <;> first | (simp [lawD] at hg; done) | skip
    all_goals (unfold numD; trivial; exact fin_same (Q := fun b => Kr (.sh (.bl b)) _) h (by simp))
  | str x =>
    trivial
    cases g <;> first | (simp [lawD] at hg; done) | skip
    all_goals trivial
    case str.str y => exact ⟨hg, hd, fin_same (Q := fun b => Kr (.sh (.bl b)) _) h (by simp)⟩
    all_goals (exact fin_same (Q := fun b => Kr (.sh (.bl b)) _) h (by simp))
  | _ => simp [lawD] at hd
end SL

set_option Elab.async false
set_option linter.all false
set_option maxRecDepth 100000
set_option maxHeartbeats 4000000
namespace K97
open PySem PySem.Spec PyProof.Rows L2 SLH SL
def excCs (K : PySem.W.Frag) : List Addr := [He.ga K "OutOfRange", He.ga K "BadDepot", He.ga K "BadBook", He.ga K "BadLives", He.ga K "BadPasses", He.ga K "BadCrews", He.ga K "BadWish", He.ga K "BadBounds", He.ga K "BadNotes", He.ga K "BadLists", He.ga K "BadGroup", He.ga K "BadCompany", He.ga K "BadTerms", He.ga K "BadLottery", He.ga K "BadLine", He.ga K "NoBook", He.ga K "GoalLost", He.ga K "NothingLeft"]
def Ca (K : PySem.W.Frag) : List Addr := [He.ga K "OutOfRange", He.ga K "BadDepot", He.ga K "BadBook", He.ga K "BadLives", He.ga K "BadPasses", He.ga K "BadCrews", He.ga K "BadWish", He.ga K "BadBounds", He.ga K "BadNotes", He.ga K "BadLists", He.ga K "BadGroup", He.ga K "BadCompany", He.ga K "BadTerms", He.ga K "BadLottery", He.ga K "BadLine"]
def Cr (K : PySem.W.Frag) : List Addr := [He.ga K "NoBook", He.ga K "GoalLost"]
abbrev aOutOfRange : List Arg := SLX.args2 ⟨6, 17, 6, 21⟩ ⟨6, 23, 6, 25⟩ ⟨6, 27, 6, 31⟩
abbrev aBadDepot : List Arg := SLX.args2 ⟨12, 17, 12, 21⟩ ⟨12, 23, 12, 25⟩ ⟨12, 27, 12, 31⟩
abbrev aBadBook : List Arg := SLX.args2 ⟨18, 17, 18, 21⟩ ⟨18, 23, 18, 25⟩ ⟨18, 27, 18, 31⟩
abbrev aBadLives : List Arg := SLX.args2 ⟨24, 17, 24, 21⟩ ⟨24, 23, 24, 25⟩ ⟨24, 27, 24, 31⟩
abbrev aBadPasses : List Arg := SLX.args2 ⟨30, 17, 30, 21⟩ ⟨30, 23, 30, 25⟩ ⟨30, 27, 30, 31⟩
abbrev aBadCrews : List Arg := SLX.args2 ⟨36, 17, 36, 21⟩ ⟨36, 23, 36, 25⟩ ⟨36, 27, 36, 31⟩
abbrev aBadWish : List Arg := SLX.args2 ⟨42, 17, 42, 21⟩ ⟨42, 23, 42, 25⟩ ⟨42, 27, 42, 31⟩
abbrev aBadBounds : List Arg := SLX.args2 ⟨48, 17, 48, 21⟩ ⟨48, 23, 48, 25⟩ ⟨48, 27, 48, 31⟩
abbrev aBadNotes : List Arg := SLX.args2 ⟨54, 17, 54, 21⟩ ⟨54, 23, 54, 25⟩ ⟨54, 27, 54, 31⟩
abbrev aBadLists : List Arg := SLX.args2 ⟨60, 17, 60, 21⟩ ⟨60, 23, 60, 25⟩ ⟨60, 27, 60, 31⟩
abbrev aBadGroup : List Arg := SLX.args2 ⟨66, 17, 66, 21⟩ ⟨66, 23, 66, 25⟩ ⟨66, 27, 66, 31⟩
abbrev aBadCompany : List Arg := SLX.args2 ⟨72, 17, 72, 21⟩ ⟨72, 23, 72, 25⟩ ⟨72, 27, 72, 31⟩
abbrev aBadTerms : List Arg := SLX.args2 ⟨78, 17, 78, 21⟩ ⟨78, 23, 78, 25⟩ ⟨78, 27, 78, 31⟩
abbrev aBadLottery : List Arg := SLX.args2 ⟨84, 17, 84, 21⟩ ⟨84, 23, 84, 25⟩ ⟨84, 27, 84, 31⟩
abbrev aBadLine : List Arg := SLX.args2 ⟨90, 17, 90, 21⟩ ⟨90, 23, 90, 25⟩ ⟨90, 27, 90, 31⟩
abbrev aNoBook : List Arg := SLX.args1 ⟨96, 17, 96, 21⟩ ⟨96, 23, 96, 29⟩
abbrev zNoBook : Str := "there is no such book"
abbrev aGoalLost : List Arg := SLX.args1 ⟨101, 17, 101, 21⟩ ⟨101, 23, 101, 29⟩
abbrev zGoalLost : Str := "the goal cannot be reached"
section
variable {P : Program} {w : World} {K : PySem.W.Frag} {mg : Str → Option Value} {base : Heap} {k : Nat}
def W_law_number   : WS := (wRet (wAndV (wIsi "int" (wVar 0)) (wNotV (wIsi "bool" (wVar 0)))))
theorem sc_law_number : FnScope ["got"] ["got"] (defScope s_law_number) := ⟨rfl, rfl, rfl, by decide +kernel, rfl, by decide +kernel, by decide +kernel⟩
theorem der_law_number (f_isinstance : mg "isinstance" = none) (f_int : mg "int" = none) (f_bool : mg "bool" = none) (cdv : Value) (A : Around) (outer : List Env) (s : Shared) (H : Hp) (E : XK) (c : Ct) (Ke : KE) (hr : Room k (A.deeper (envOfC "_law_number" (defScope s_law_number) s.heap.objs.size (He.ga K "_law_number") cdv))) (tk : Takes (cxOf (L2.CX P w) P w K mg base ["got"] "_law_number" (defScope s_law_number) (He.ga K "_law_number") cdv A outer s H E) (wxS K c Ke)) :
    PSs (cxOf (L2.CX P w) P w K mg base ["got"] "_law_number" (defScope s_law_number) (He.ga K "_law_number") cdv A outer s H E) (defBody s_law_number) (tS K c Ke (W_law_number  )) := by
  have sc := sc_law_number
  have hu : (A.deeper (envOfC "_law_number" (defScope s_law_number) s.heap.objs.size (He.ga K "_law_number") cdv)).units + 64 < cLine := by have := hr.un; omega
  exact (i_sone (i_ret (i_andV (i_isi (i_var 0) (by rfl) f_isinstance (by rfl) f_int (by decide +kernel)) (i_one (i_notV (i_isi (i_var 0) (by rfl) f_isinstance (by rfl) f_bool (by decide +kernel)))))))
def W_law_same  (C_law_number : Con) (C_law_same : Con) : WS := (wSeq (wIf (wTB (w1 (wIsN false) (wVar 1))) (wRet (w1 (wIsN false) (wVar 0))) wSkip)
  (wSeq (wIf (wTB (wIsi "bool" (wVar 1))) (wRet (wAndV (wIsi "bool" (wVar 0)) (w2 wEq (wVar 0) (wVar 1)))) wSkip)
  (wSeq (wIf (wTB (wIsi "int" (wVar 1))) (wRet (wAndV (wCall 1 C_law_number [.bo] (wCons (wVar 0) wNil)) (w2 wEq (wVar 0) (wVar 1)))) wSkip)
  (wSeq (wIf (wTB (wIsi "str" (wVar 1))) (wRet (wAndV (wIsi "str" (wVar 0)) (w2 wEq (wVar 0) (wVar 1)))) wSkip)
  (wSeq (wIf (wAnd (wTB (wIsi "list" (wVar 1))) (wNot (wTB (wIsi "list" (wVar 0))))) (wRet (wC (.bl false))) wSkip)
  (wSeq (wIf (wAnd (wTB (wIsi "tuple" (wVar 1))) (wNot (wTB (wIsi "tuple" (wVar 0))))) (wRet (wC (.bl false))) wSkip)
  (wSeq (wIf (wTB (w2 wNe (wCB wLen (wCons (wVar 0) wNil)) (wCB wLen (wCons (wVar 1) wNil)))) (wRet (wC (.bl false))) wSkip)
  (wSeq (wFor (wRange1 (wCons (wCB wLen (wCons (wVar 1) wNil)) wNil)) (sto 2) (wIf (wNot (wTB (wCall 2 C_law_same [.bo, .bo] (wCons (w2 wItem (wVar 0) (wVar 2)) (wCons (w2 wItem (wVar 1) (wVar 2)) wNil))))) (wRet (wC (.bl false))) wSkip))
  (wRet (wC (.bl true)))))))))))
theorem sc_law_same : FnScope ["got", "due", "k"] ["got", "due"] (defScope s_law_same) := ⟨rfl, rfl, rfl, by decide +kernel, rfl, by decide +kernel, by decide +kernel⟩
theorem der_law_same {C_law_number : Con} (g_law_number : Good P w K mg base k "_law_number" ["got"] C_law_number) {C_law_same : Con} (g_law_same : Good P w K mg base k "_law_same" ["got", "due"] C_law_same) (f_isinstance : mg "isinstance" = none) (f_bool : mg "bool" = none) (f_int : mg "int" = none) (f_str : mg "str" = none) (f_list : mg "list" = none) (f_tuple : mg "tuple" = none) (f_len : mg "len" = none) (f_range : mg "range" = none) (cdv : Value) (A : Around) (outer : List Env) (s : Shared) (H : Hp) (E : XK) (c : Ct) (Ke : KE) (hr : Room k (A.deeper (envOfC "_law_same" (defScope s_law_same) s.heap.objs.size (He.ga K "_law_same") cdv))) (tk : Takes (cxOf (L2.CX P w) P w K mg base ["got", "due", "k"] "_law_same" (defScope s_law_same) (He.ga K "_law_same") cdv A outer s H E) (wxS K c Ke)) :
    PSs (cxOf (L2.CX P w) P w K mg base ["got", "due", "k"] "_law_same" (defScope s_law_same) (He.ga K "_law_same") cdv A outer s H E) (defBody s_law_same) (tS K c Ke (W_law_same  C_law_number C_law_same)) := by
  have sc := sc_law_same
  have hu : (A.deeper (envOfC "_law_same" (defScope s_law_same) s.heap.objs.size (He.ga K "_law_same") cdv)).units + 64 < cLine := by have := hr.un; omega
  exact (i_scons (i_if (i_tisN (i_var 1)) (i_sone (i_ret (i_isN (i_var 0)))) i_snil)
  (i_scons (i_if (i_tb (i_isi (i_var 1) (by rfl) f_isinstance (by rfl) f_bool (by decide +kernel))) (i_sone (i_ret (i_andV (i_isi (i_var 0) (by rfl) f_isinstance (by rfl) f_bool (by decide +kernel)) (i_one (i_eq (by exact hu) (i_var 0) (i_var 1)))))) i_snil)
  (i_scons (i_if (i_tb (i_isi (i_var 1) (by rfl) f_isinstance (by rfl) f_int (by decide +kernel))) (i_sone (i_ret (i_andV (i_callG (pr := ["got"]) (C := C_law_number) [.bo] (by exact g_law_number) (by exact hr) (by rfl) (by exact tk) (i_cons (i_var 0) i_nil)) (i_one (i_eq (by exact hu) (i_var 0) (i_var 1)))))) i_snil)
  (i_scons (i_if (i_tb (i_isi (i_var 1) (by rfl) f_isinstance (by rfl) f_str (by decide +kernel))) (i_sone (i_ret (i_andV (i_isi (i_var 0) (by rfl) f_isinstance (by rfl) f_str (by decide +kernel)) (i_one (i_eq (by exact hu) (i_var 0) (i_var 1)))))) i_snil)
  (i_scons (i_if (PW.pt (i_and (i_tb (i_isi (i_var 1) (by rfl) f_isinstance (by rfl) f_list (by decide +kernel))) (i_and1 (i_not (i_tb (i_isi (i_var 0) (by rfl) f_isinstance (by rfl) f_list (by decide +kernel))))))) (i_sone (i_ret i_bl)) i_snil)
  (i_scons (i_if (PW.pt (i_and (i_tb (i_isi (i_var 1) (by rfl) f_isinstance (by rfl) f_tuple (by decide +kernel))) (i_and1 (i_not (i_tb (i_isi (i_var 0) (by rfl) f_isinstance (by rfl) f_tuple (by decide +kernel))))))) (i_sone (i_ret i_bl)) i_snil)
  (i_scons (i_if (i_tne (by exact hu) (i_callB call_len opa_len (by rfl) f_len (by decide +kernel) (i_cons (i_var 0) i_nil)) (i_callB call_len opa_len (by rfl) f_len (by decide +kernel) (i_cons (i_var 1) i_nil))) (i_sone (i_ret i_bl)) i_snil)
  (i_scons (i_for (by exact passes_of rfl) (by rfl) (i_range1 (by rfl) f_range (i_cons (i_callB call_len opa_len (by rfl) f_len (by decide +kernel) (i_cons (i_var 1) i_nil)) i_nil)) (i_gname 2 (pg_name sc.nd (by rfl) (by first | exact .inl rfl | exact .inr rfl))) (i_sone (i_if (i_not (i_tb (i_callG (pr := ["got", "due"]) (C := C_law_same) [.bo, .bo] (by exact g_law_same) (by exact hr) (by rfl) (by exact tk) (i_cons (i_it (i_var 0) (i_var 2)) (i_cons (i_it (i_var 1) (i_var 2)) i_nil))))) (i_sone (i_ret i_bl)) i_snil)))
  (i_sone (i_ret i_bl))))))))))
def W_law_pool   : WS := (wRet (wLst (wCons (wC (.int 0)) (wCons (wC (.int 1)) (wCons (wC (.int 0)) (wCons (wC (.int 0)) (wCons (wCB wListOf (wCons (wVar 0) wNil)) wNil)))))))
theorem sc_law_pool : FnScope ["script"] ["script"] (defScope s_law_pool) := ⟨rfl, rfl, rfl, by decide +kernel, rfl, by decide +kernel, by decide +kernel⟩
theorem der_law_pool (f_list : mg "list" = none) (cdv : Value) (A : Around) (outer : List Env) (s : Shared) (H : Hp) (E : XK) (c : Ct) (Ke : KE) (hr : Room k (A.deeper (envOfC "_law_pool" (defScope s_law_pool) s.heap.objs.size (He.ga K "_law_pool") cdv))) (tk : Takes (cxOf (L2.CX P w) P w K mg base ["script"] "_law_pool" (defScope s_law_pool) (He.ga K "_law_pool") cdv A outer s H E) (wxS K c Ke)) :
    PSs (cxOf (L2.CX P w) P w K mg base ["script"] "_law_pool" (defScope s_law_pool) (He.ga K "_law_pool") cdv A outer s H E) (defBody s_law_pool) (tS K c Ke (W_law_pool  )) := by
  have sc := sc_law_pool
  have hu : (A.deeper (envOfC "_law_pool" (defScope s_law_pool) s.heap.objs.size (He.ga K "_law_pool") cdv)).units + 64 < cLine := by have := hr.un; omega
  exact (i_sone (i_ret (i_lst (i_cons i_int (i_cons i_int (i_cons i_int (i_cons i_int (i_cons (i_callT call_list_of opa_list (by rfl) f_list (by decide +kernel) (i_cons (i_var 0) i_nil)) i_nil))))))))
def W_law_take   : WS := (wSeq (wIf (wAnd (wTB (w2 wEq (w2 wItem (wVar 0) (wC (.int 0))) (wC (.int 0)))) (wTB (w2 wLt (w2 wItem (wVar 0) (wC (.int 3))) (wCB wLen (wCons (w2 wItem (wVar 0) (wC (.int 4))) wNil))))) (wSeq (wAsg (wCB wAbs (wCons (w2 wItem (w2 wItem (wVar 0) (wC (.int 4))) (w2 wItem (wVar 0) (wC (.int 3)))) wNil)) (sto 2))
  (wSeq (wStI (w2 wPlus (w2 wItem (wVar 0) (wC (.int 3))) (wC (.int 1))) (wVar 0) (wC (.int 3)))
  (wIf (wTB (w2 wGe (wVar 2) (w2 wPow (wC (.int 10)) (wC (.int 18))))) (wStI (wVar 2) (wVar 0) (wC (.int 0))) (wStI (w2 wMod (wCB wIntOf (wCons (w2 wPlus (w2 wPlus (w2 wTimes (w2 wItem (wVar 0) (wC (.int 1))) (wC (.int 48271))) (wVar 2)) (wC (.int 1))) wNil)) (wC (.int 2147483399))) (wVar 0) (wC (.int 1)))))) wSkip)
  (wSeq (wIf (wTB (w2 wGt (w2 wItem (wVar 0) (wC (.int 0))) (wC (.int 0)))) (wSeq (wAsg (w2 wMod (wCB wIntOf (wCons (w2 wItem (wVar 0) (wC (.int 0))) wNil)) (wVar 1)) (sto 3))
  (wSeq (wStI (w2 wDiv (w2 wItem (wVar 0) (wC (.int 0))) (wVar 1)) (wVar 0) (wC (.int 0)))
  (wRet (wMove (wVar 3))))) wSkip)
  (wSeq (wAsg (w2 wPlus (w2 wItem (wVar 0) (wC (.int 2))) (wC (.int 1))) (sto 4))
  (wSeq (wStI (wVar 4) (wVar 0) (wC (.int 2)))
  (wSeq (wAsg (w2 wItem (wVar 0) (wC (.int 1))) (sto 5))
  (wSeq (wAsg (w2 wMod (wCB wIntOf (wCons (w2 wPlus (w2 wPlus (w2 wTimes (wVar 5) (wVar 5)) (w2 wTimes (wVar 4) (wC (.int 3571)))) (wC (.int 40692))) wNil)) (wC (.int 2147483399))) (sto 5))
  (wSeq (wAsg (w2 wMod (wCB wIntOf (wCons (w2 wPlus (w2 wTimes (wVar 5) (wVar 5)) (w2 wDiv (wVar 5) (wC (.int 97)))) wNil)) (wC (.int 2147483629))) (sto 5))
  (wSeq (wStI (wVar 5) (wVar 0) (wC (.int 1)))
  (wRet (w2 wMod (wCB wIntOf (wCons (w2 wDiv (wVar 5) (wC (.int 8))) wNil)) (wVar 1)))))))))))
theorem sc_law_take : FnScope ["pool", "limit", "cell", "got", "k", "mixed"] ["pool", "limit"] (defScope s_law_take) := ⟨rfl, rfl, rfl, by decide +kernel, rfl, by decide +kernel, by decide +kernel⟩
theorem der_law_take (f_len : mg "len" = none) (f_abs : mg "abs" = none) (f_int : mg "int" = none) (cdv : Value) (A : Around) (outer : List Env) (s : Shared) (H : Hp) (E : XK) (c : Ct) (Ke : KE) (hr : Room k (A.deeper (envOfC "_law_take" (defScope s_law_take) s.heap.objs.size (He.ga K "_law_take") cdv))) (tk : Takes (cxOf (L2.CX P w) P w K mg base ["pool", "limit", "cell", "got", "k", "mixed"] "_law_take" (defScope s_law_take) (He.ga K "_law_take") cdv A outer s H E) (wxS K c Ke)) :
    PSs (cxOf (L2.CX P w) P w K mg base ["pool", "limit", "cell", "got", "k", "mixed"] "_law_take" (defScope s_law_take) (He.ga K "_law_take") cdv A outer s H E) (defBody s_law_take) (tS K c Ke (W_law_take  )) := by
  have sc := sc_law_take
  have hu : (A.deeper (envOfC "_law_take" (defScope s_law_take) s.heap.objs.size (He.ga K "_law_take") cdv)).units + 64 < cLine := by have := hr.un; omega
  exact (i_scons (i_if (PW.pt (i_and (i_teq (by exact hu) (i_it (i_var 0) i_int) i_int) (i_and1 (i_tlt (i_it (i_var 0) i_int) (i_callB call_len opa_len (by rfl) f_len (by decide +kernel) (i_cons (i_it (i_var 0) i_int) i_nil)))))) (i_scons (i_asg (i_callB call_abs opa_abs (by rfl) f_abs (by decide +kernel) (i_cons (i_it (i_it (i_var 0) i_int) (i_it (i_var 0) i_int)) i_nil)) (i_gname 2 (pg_name sc.nd (by rfl) (by first | exact .inl rfl | exact .inr rfl))))
  (i_scons (i_setI (i_plus (i_it (i_var 0) i_int) i_int) (i_var 0) i_int)
  (i_sone (i_if (i_tge (i_var 2) (i_pow i_int i_int)) (i_sone (i_setI (i_var 2) (i_var 0) i_int)) (i_sone (i_setI (i_mod (i_callT call_int1 opa_int (by rfl) f_int (by decide +kernel) (i_cons (i_plus (i_plus (i_times (i_it (i_var 0) i_int) i_int) (i_var 2)) i_int) i_nil)) i_int) (i_var 0) i_int)))))) i_snil)
  (i_scons (i_if (i_tgt (i_it (i_var 0) i_int) i_int) (i_scons (i_asg (i_mod (i_callT call_int1 opa_int (by rfl) f_int (by decide +kernel) (i_cons (i_it (i_var 0) i_int) i_nil)) (i_var 1)) (i_gname 3 (pg_name sc.nd (by rfl) (by first | exact .inl rfl | exact .inr rfl))))
  (i_scons (i_setI (i_div (i_it (i_var 0) i_int) (i_var 1)) (i_var 0) i_int)
  (i_sone (i_ret (i_move (i_var 3)))))) i_snil)
  (i_scons (i_asg (i_plus (i_it (i_var 0) i_int) i_int) (i_gname 4 (pg_name sc.nd (by rfl) (by first | exact .inl rfl | exact .inr rfl))))
  (i_scons (i_setI (i_var 4) (i_var 0) i_int)
  (i_scons (i_asg (i_it (i_var 0) i_int) (i_gname 5 (pg_name sc.nd (by rfl) (by first | exact .inl rfl | exact .inr rfl))))
  (i_scons (i_asg (i_mod (i_callT call_int1 opa_int (by rfl) f_int (by decide +kernel) (i_cons (i_plus (i_plus (i_times (i_var 5) (i_var 5)) (i_times (i_var 4) i_int)) i_int) i_nil)) i_int) (i_gname 5 (pg_name sc.nd (by rfl) (by first | exact .inl rfl | exact .inr rfl))))
  (i_scons (i_asg (i_mod (i_callT call_int1 opa_int (by rfl) f_int (by decide +kernel) (i_cons (i_plus (i_times (i_var 5) (i_var 5)) (i_div (i_var 5) i_int)) i_nil)) i_int) (i_gname 5 (pg_name sc.nd (by rfl) (by first | exact .inl rfl | exact .inr rfl))))
  (i_scons (i_setI (i_var 5) (i_var 0) i_int)
  (i_sone (i_ret (i_mod (i_callT call_int1 opa_int (by rfl) f_int (by decide +kernel) (i_cons (i_div (i_var 5) i_int) i_nil)) (i_var 1))))))))))))
def W_law_great  (C_law_take : Con) : WS := (wSeq (wAsg (wCall 2 C_law_take [.io, .as] (wCons (wVar 0) (wCons (wC (.int 4)) wNil))) (sto 2))
  (wSeq (wIf (wTB (w2 wLt (wVar 2) (wC (.int 2)))) (wRet (wCB wMin2 (wCons (wVar 1) (wCons (wCall 2 C_law_take [.io, .as] (wCons (wVar 0) (wCons (wC (.int 40)) wNil))) wNil)))) wSkip)
  (wSeq (wIf (wTB (w2 wEq (wVar 2) (wC (.int 2)))) (wRet (wCB wMin2 (wCons (wVar 1) (wCons (wCall 2 C_law_take [.io, .as] (wCons (wVar 0) (wCons (wC (.int 4000)) wNil))) wNil)))) wSkip)
  (wSeq (wIf (wTB (w2 wGt (w2 wItem (wVar 0) (wC (.int 0))) (wVar 1))) (wRet (wCall 2 C_law_take [.io, .as] (wCons (wVar 0) (wCons (w2 wPlus (wVar 1) (wC (.int 1))) wNil)))) wSkip)
  (wSeq (wAsg (wC (.int 0)) (sto 3))
  (wSeq (wFor (wRange1 (wCons (wC (.int 4)) wNil)) (sto 4) (wAsg (w2 wPlus (w2 wTimes (wVar 3) (w2 wPow (wC (.int 10)) (wC (.int 8)))) (wCall 2 C_law_take [.io, .as] (wCons (wVar 0) (wCons (w2 wPow (wC (.int 10)) (wC (.int 8))) wNil)))) (sto 3)))
  (wRet (w2 wMod (wCB wIntOf (wCons (wVar 3) wNil)) (w2 wPlus (wVar 1) (wC (.int 1)))))))))))
theorem sc_law_great : FnScope ["pool", "most", "way", "got", "k"] ["pool", "most"] (defScope s_law_great) := ⟨rfl, rfl, rfl, by decide +kernel, rfl, by decide +kernel, by decide +kernel⟩
theorem der_law_great {C_law_take : Con} (g_law_take : Good P w K mg base k "_law_take" ["pool", "limit"] C_law_take) (f_min : mg "min" = none) (f_range : mg "range" = none) (f_int : mg "int" = none) (cdv : Value) (A : Around) (outer : List Env) (s : Shared) (H : Hp) (E : XK) (c : Ct) (Ke : KE) (hr : Room k (A.deeper (envOfC "_law_great" (defScope s_law_great) s.heap.objs.size (He.ga K "_law_great") cdv))) (tk : Takes (cxOf (L2.CX P w) P w K mg base ["pool", "most", "way", "got", "k"] "_law_great" (defScope s_law_great) (He.ga K "_law_great") cdv A outer s H E) (wxS K c Ke)) :
    PSs (cxOf (L2.CX P w) P w K mg base ["pool", "most", "way", "got", "k"] "_law_great" (defScope s_law_great) (He.ga K "_law_great") cdv A outer s H E) (defBody s_law_great) (tS K c Ke (W_law_great  C_law_take)) := by
  have sc := sc_law_great
  have hu : (A.deeper (envOfC "_law_great" (defScope s_law_great) s.heap.objs.size (He.ga K "_law_great") cdv)).units + 64 < cLine := by have := hr.un; omega
  exact (i_scons (i_asg (i_callG (pr := ["pool", "limit"]) (C := C_law_take) [.io, .as] (by exact g_law_take) (by exact hr) (by rfl) (by exact tk) (i_cons (i_var 0) (i_cons i_int i_nil))) (i_gname 2 (pg_name sc.nd (by rfl) (by first | exact .inl rfl | exact .inr rfl))))
  (i_scons (i_if (i_tlt (i_var 2) i_int) (i_sone (i_ret (i_callB (call_min2 rfl) opa_min2 (by rfl) f_min (by decide +kernel) (i_cons (i_var 1) (i_cons (by exact (i_callG (pr := ["pool", "limit"]) (C := C_law_take) [.io, .as] (by exact g_law_take) (by exact hr) (by rfl) (by exact tk) (i_cons (i_var 0) (i_cons i_int i_nil)))) i_nil))))) i_snil)
  (i_scons (i_if (i_teq (by exact hu) (i_var 2) i_int) (i_sone (i_ret (i_callB (call_min2 rfl) opa_min2 (by rfl) f_min (by decide +kernel) (i_cons (i_var 1) (i_cons (by exact (i_callG (pr := ["pool", "limit"]) (C := C_law_take) [.io, .as] (by exact g_law_take) (by exact hr) (by rfl) (by exact tk) (i_cons (i_var 0) (i_cons i_int i_nil)))) i_nil))))) i_snil)
  (i_scons (i_if (i_tgt (i_it (i_var 0) i_int) (i_var 1)) (i_sone (i_ret (i_callG (pr := ["pool", "limit"]) (C := C_law_take) [.io, .as] (by exact g_law_take) (by exact hr) (by rfl) (by exact tk) (i_cons (i_var 0) (i_cons (i_plus (i_var 1) i_int) i_nil))))) i_snil)
  (i_scons (i_asg i_int (i_gname 3 (pg_name sc.nd (by rfl) (by first | exact .inl rfl | exact .inr rfl))))
  (i_scons (i_for (by exact passes_of rfl) (by rfl) (i_range1 (by rfl) f_range (i_cons i_int i_nil)) (i_gname 4 (pg_name sc.nd (by rfl) (by first | exact .inl rfl | exact .inr rfl))) (i_sone (i_asg (i_plus (i_times (i_var 3) (i_pow i_int i_int)) (i_callG (pr := ["pool", "limit"]) (C := C_law_take) [.io, .as] (by exact g_law_take) (by exact hr) (by rfl) (by exact tk) (i_cons (i_var 0) (i_cons (i_pow i_int i_int) i_nil)))) (i_gname 3 (pg_name sc.nd (by rfl) (by first | exact .inl rfl | exact .inr rfl))))))
  (i_sone (i_ret (i_mod (i_callT call_int1 opa_int (by rfl) f_int (by decide +kernel) (i_cons (i_var 3) i_nil)) (i_plus (i_var 1) i_int))))))))))
def W_law_integer  (C_law_take : Con) (C_law_great : Con) : WS := (wRet (w2 wTimes (w2 wItem (wLst (wCons (wC (.int 1)) (wCons (w1 wNeg (wC (.int 1))) wNil))) (wCall 2 C_law_take [.io, .as] (wCons (wVar 0) (wCons (wC (.int 2)) wNil)))) (wCall 2 C_law_great [.io, .as] (wCons (wVar 0) (wCons (w2 wPow (wC (.int 10)) (wC (.int 31))) wNil)))))
theorem sc_law_integer : FnScope ["pool"] ["pool"] (defScope s_law_integer) := ⟨rfl, rfl, rfl, by decide +kernel, rfl, by decide +kernel, by decide +kernel⟩
theorem der_law_integer {C_law_take : Con} (g_law_take : Good P w K mg base k "_law_take" ["pool", "limit"] C_law_take) {C_law_great : Con} (g_law_great : Good P w K mg base k "_law_great" ["pool", "most"] C_law_great) (cdv : Value) (A : Around) (outer : List Env) (s : Shared) (H : Hp) (E : XK) (c : Ct) (Ke : KE) (hr : Room k (A.deeper (envOfC "_law_integer" (defScope s_law_integer) s.heap.objs.size (He.ga K "_law_integer") cdv))) (tk : Takes (cxOf (L2.CX P w) P w K mg base ["pool"] "_law_integer" (defScope s_law_integer) (He.ga K "_law_integer") cdv A outer s H E) (wxS K c Ke)) :
    PSs (cxOf (L2.CX P w) P w K mg base ["pool"] "_law_integer" (defScope s_law_integer) (He.ga K "_law_integer") cdv A outer s H E) (defBody s_law_integer) (tS K c Ke (W_law_integer  C_law_take C_law_great)) := by
  have sc := sc_law_integer
  have hu : (A.deeper (envOfC "_law_integer" (defScope s_law_integer) s.heap.objs.size (He.ga K "_law_integer") cdv)).units + 64 < cLine := by have := hr.un; omega
  exact (i_sone (i_ret (i_times (i_it (i_lst (i_cons i_int (i_cons (i_neg i_int) i_nil))) (i_callG (pr := ["pool", "limit"]) (C := C_law_take) [.io, .as] (by exact g_law_take) (by exact hr) (by rfl) (by exact tk) (i_cons (i_var 0) (i_cons i_int i_nil)))) (i_callG (pr := ["pool", "most"]) (C := C_law_great) [.io, .as] (by exact g_law_great) (by exact hr) (by rfl) (by exact tk) (i_cons (i_var 0) (i_cons (i_pow i_int i_int) i_nil))))))
def W_law_text  (C_law_take : Con) : WS := (wSeq (wAsg (wC (.str "abcdefghijklmnopqrstuvwxyz ABCXYZ0189_-.,:;()#")) (sto 1))
  (wRet (wBM isS gJoin (wC (.str "")) (wCons (wLc (wRange1 (wCons (wCall 2 C_law_take [.io, .as] (wCons (wVar 0) (wCons (wC (.int 13)) wNil))) wNil)) [2] (sto 2) wYes (w2 wItem (wVar 1) (wCall 2 C_law_take [.io, .as] (wCons (wVar 0) (wCons (wCB wLen (wCons (wVar 1) wNil)) wNil))))) wNil))))
theorem sc_law_text : FnScope ["pool", "signs", "k"] ["pool"] (defScope s_law_text) := ⟨rfl, rfl, rfl, by decide +kernel, rfl, by decide +kernel, by decide +kernel⟩
theorem der_law_text {C_law_take : Con} (g_law_take : Good P w K mg base k "_law_take" ["pool", "limit"] C_law_take) (f_range : mg "range" = none) (f_len : mg "len" = none) (cdv : Value) (A : Around) (outer : List Env) (s : Shared) (H : Hp) (E : XK) (c : Ct) (Ke : KE) (hr : Room k (A.deeper (envOfC "_law_text" (defScope s_law_text) s.heap.objs.size (He.ga K "_law_text") cdv))) (tk : Takes (cxOf (L2.CX P w) P w K mg base ["pool", "signs", "k"] "_law_text" (defScope s_law_text) (He.ga K "_law_text") cdv A outer s H E) (wxS K c Ke)) :
    PSs (cxOf (L2.CX P w) P w K mg base ["pool", "signs", "k"] "_law_text" (defScope s_law_text) (He.ga K "_law_text") cdv A outer s H E) (defBody s_law_text) (tS K c Ke (W_law_text  C_law_take)) := by
  have sc := sc_law_text
  have hu : (A.deeper (envOfC "_law_text" (defScope s_law_text) s.heap.objs.size (He.ga K "_law_text") cdv)).units + 64 < cLine := by have := hr.un; omega
  exact (i_scons (i_asg i_str (i_gname 1 (pg_name sc.nd (by rfl) (by first | exact .inl rfl | exact .inr rfl))))
  (i_sone (i_ret (i_join i_str (i_cons (by exact (i_lc (by rfl) sc.nd (by exact (i_range1 (by rfl) f_range (i_cons (by exact (i_callG (pr := ["pool", "limit"]) (C := C_law_take) [.io, .as] (by exact g_law_take) (by exact hr) (by rfl) (by exact tk) (i_cons (i_var 0) (i_cons i_int i_nil)))) i_nil))) (blkOk_by (own := [("k", 2)]) (by rfl)) (fun s H C cl fp => (i_gname 2 (pg_name sc.nd (by rfl) (by first | exact .inl rfl | exact .inr rfl)))) (fun s H C cl fp => i_yes) (fun s H C cl fp => (by exact (i_it (i_var 1) (i_callG (pr := ["pool", "limit"]) (C := C_law_take) [.io, .as] (by exact g_law_take) (by exact hr) (by rfl) (by exact tk_none) (i_cons (i_var 0) (i_cons (i_callB call_len opa_len (by rfl) f_len (by decide +kernel) (i_cons (i_var 1) i_nil)) i_nil)))))) (by decide))) i_nil)))))
def W_law_drawn  (C_law_integer : Con) (C_law_text : Con) (C_law_take : Con) : WS := (wSeq (wAsg (wCall 1 C_law_integer [.io] (wCons (wVar 0) wNil)) (sto 1))
  (wSeq (wAsg (wCall 1 C_law_text [.io] (wCons (wVar 0) wNil)) (sto 2))
  (wSeq (wAsg (w2 wPlus (wTup (wCons (wCall 1 C_law_text [.io] (wCons (wVar 0) wNil)) wNil)) (wCB wTupOf (wCons (wLc (wRange1 (wCons (wCall 2 C_law_take [.io, .as] (wCons (wVar 0) (wCons (wC (.int 5)) wNil))) wNil)) [4] (sto 4) wYes (wCall 1 C_law_integer [.io] (wCons (wVar 0) wNil))) wNil))) (sto 3))
  (wRet (wLst (wCons (wVar 1) (wCons (wVar 2) (wCons (wVar 3) wNil))))))))
theorem sc_law_drawn : FnScope ["pool", "at", "code", "reason", "k"] ["pool"] (defScope s_law_drawn) := ⟨rfl, rfl, rfl, by decide +kernel, rfl, by decide +kernel, by decide +kernel⟩
theorem der_law_drawn {C_law_integer : Con} (g_law_integer : Good P w K mg base k "_law_integer" ["pool"] C_law_integer) {C_law_text : Con} (g_law_text : Good P w K mg base k "_law_text" ["pool"] C_law_text) {C_law_take : Con} (g_law_take : Good P w K mg base k "_law_take" ["pool", "limit"] C_law_take) (f_tuple : mg "tuple" = none) (f_range : mg "range" = none) (cdv : Value) (A : Around) (outer : List Env) (s : Shared) (H : Hp) (E : XK) (c : Ct) (Ke : KE) (hr : Room k (A.deeper (envOfC "_law_drawn" (defScope s_law_drawn) s.heap.objs.size (He.ga K "_law_drawn") cdv))) (tk : Takes (cxOf (L2.CX P w) P w K mg base ["pool", "at", "code", "reason", "k"] "_law_drawn" (defScope s_law_drawn) (He.ga K "_law_drawn") cdv A outer s H E) (wxS K c Ke)) :
    PSs (cxOf (L2.CX P w) P w K mg base ["pool", "at", "code", "reason", "k"] "_law_drawn" (defScope s_law_drawn) (He.ga K "_law_drawn") cdv A outer s H E) (defBody s_law_drawn) (tS K c Ke (W_law_drawn  C_law_integer C_law_text C_law_take)) := by
  have sc := sc_law_drawn
  have hu : (A.deeper (envOfC "_law_drawn" (defScope s_law_drawn) s.heap.objs.size (He.ga K "_law_drawn") cdv)).units + 64 < cLine := by have := hr.un; omega
  exact (i_scons (i_asg (i_callG (pr := ["pool"]) (C := C_law_integer) [.io] (by exact g_law_integer) (by exact hr) (by rfl) (by exact tk) (i_cons (i_var 0) i_nil)) (i_gname 1 (pg_name sc.nd (by rfl) (by first | exact .inl rfl | exact .inr rfl))))
  (i_scons (i_asg (i_callG (pr := ["pool"]) (C := C_law_text) [.io] (by exact g_law_text) (by exact hr) (by rfl) (by exact tk) (i_cons (i_var 0) i_nil)) (i_gname 2 (pg_name sc.nd (by rfl) (by first | exact .inl rfl | exact .inr rfl))))
  (i_scons (i_asg (i_plus (i_tup (i_cons (by exact (i_callG (pr := ["pool"]) (C := C_law_text) [.io] (by exact g_law_text) (by exact hr) (by rfl) (by exact tk) (i_cons (i_var 0) i_nil))) i_nil)) (i_callT call_tuple_of opa_tuple (by rfl) f_tuple (by decide +kernel) (i_cons (by exact (i_lc (by rfl) sc.nd (by exact (i_range1 (by rfl) f_range (i_cons (by exact (i_callG (pr := ["pool", "limit"]) (C := C_law_take) [.io, .as] (by exact g_law_take) (by exact hr) (by rfl) (by exact tk) (i_cons (i_var 0) (i_cons i_int i_nil)))) i_nil))) (blkOk_by (own := [("k", 4)]) (by rfl)) (fun s H C cl fp => (i_gname 4 (pg_name sc.nd (by rfl) (by first | exact .inl rfl | exact .inr rfl)))) (fun s H C cl fp => i_yes) (fun s H C cl fp => (by exact (i_callG (pr := ["pool"]) (C := C_law_integer) [.io] (by exact g_law_integer) (by exact hr) (by rfl) (by exact tk_none) (i_cons (i_var 0) i_nil)))) (by decide))) i_nil))) (i_gname 3 (pg_name sc.nd (by rfl) (by first | exact .inl rfl | exact .inr rfl))))
  (i_sone (i_ret (i_lst (i_cons (i_var 1) (i_cons (i_var 2) (i_cons (i_var 3) i_nil)))))))))
def W_law_made (K : PySem.W.Frag)  : WS := (wSeq (wIf (wTB (w2 wEq (wVar 0) (wC (.int 0)))) (wRet (wVal2 (He.ga K "OutOfRange") (wCons (wVar 1) (wCons (wVar 2) wNil)))) wSkip)
  (wSeq (wIf (wTB (w2 wEq (wVar 0) (wC (.int 1)))) (wRet (wVal2 (He.ga K "BadDepot") (wCons (wVar 1) (wCons (wVar 2) wNil)))) wSkip)
  (wSeq (wIf (wTB (w2 wEq (wVar 0) (wC (.int 2)))) (wRet (wVal2 (He.ga K "BadBook") (wCons (wVar 1) (wCons (wVar 2) wNil)))) wSkip)
  (wSeq (wIf (wTB (w2 wEq (wVar 0) (wC (.int 3)))) (wRet (wVal2 (He.ga K "BadLives") (wCons (wVar 1) (wCons (wVar 2) wNil)))) wSkip)
  (wSeq (wIf (wTB (w2 wEq (wVar 0) (wC (.int 4)))) (wRet (wVal2 (He.ga K "BadPasses") (wCons (wVar 1) (wCons (wVar 2) wNil)))) wSkip)
  (wSeq (wIf (wTB (w2 wEq (wVar 0) (wC (.int 5)))) (wRet (wVal2 (He.ga K "BadCrews") (wCons (wVar 1) (wCons (wVar 2) wNil)))) wSkip)
  (wSeq (wIf (wTB (w2 wEq (wVar 0) (wC (.int 6)))) (wRet (wVal2 (He.ga K "BadWish") (wCons (wVar 1) (wCons (wVar 2) wNil)))) wSkip)
  (wSeq (wIf (wTB (w2 wEq (wVar 0) (wC (.int 7)))) (wRet (wVal2 (He.ga K "BadBounds") (wCons (wVar 1) (wCons (wVar 2) wNil)))) wSkip)
  (wSeq (wIf (wTB (w2 wEq (wVar 0) (wC (.int 8)))) (wRet (wVal2 (He.ga K "BadNotes") (wCons (wVar 1) (wCons (wVar 2) wNil)))) wSkip)
  (wSeq (wIf (wTB (w2 wEq (wVar 0) (wC (.int 9)))) (wRet (wVal2 (He.ga K "BadLists") (wCons (wVar 1) (wCons (wVar 2) wNil)))) wSkip)
  (wSeq (wIf (wTB (w2 wEq (wVar 0) (wC (.int 10)))) (wRet (wVal2 (He.ga K "BadLine") (wCons (wVar 1) (wCons (wVar 2) wNil)))) wSkip)
  (wSeq (wIf (wTB (w2 wEq (wVar 0) (wC (.int 11)))) (wRet (wVal2 (He.ga K "BadGroup") (wCons (wVar 1) (wCons (wVar 2) wNil)))) wSkip)
  (wSeq (wIf (wTB (w2 wEq (wVar 0) (wC (.int 12)))) (wRet (wVal2 (He.ga K "BadCompany") (wCons (wVar 1) (wCons (wVar 2) wNil)))) wSkip)
  (wSeq (wIf (wTB (w2 wEq (wVar 0) (wC (.int 13)))) (wRet (wVal2 (He.ga K "BadTerms") (wCons (wVar 1) (wCons (wVar 2) wNil)))) wSkip)
  (wSeq (wIf (wTB (w2 wEq (wVar 0) (wC (.int 14)))) (wRet (wVal2 (He.ga K "BadLottery") (wCons (wVar 1) (wCons (wVar 2) wNil)))) wSkip)
  (wSeq (wIf (wTB (w2 wEq (wVar 0) (wC (.int 15)))) (wRet (wVal1 (He.ga K "NoBook") (wCons (wVar 3) wNil))) wSkip)
  (wSeq (wIf (wTB (w2 wEq (wVar 0) (wC (.int 16)))) (wRet (wVal1 (He.ga K "GoalLost") (wCons (wVar 3) wNil))) wSkip)
  (wRet (wVal0 (He.ga K "NothingLeft"))))))))))))))))))))
theorem sc_law_made : FnScope ["k", "at", "code", "reason"] ["k", "at", "code", "reason"] (defScope s_law_made) := ⟨rfl, rfl, rfl, by decide +kernel, rfl, by decide +kernel, by decide +kernel⟩
theorem der_law_made (m_OutOfRange : mg "OutOfRange" = some (.ref (He.ga K "OutOfRange"))) (m_BadDepot : mg "BadDepot" = some (.ref (He.ga K "BadDepot"))) (m_BadBook : mg "BadBook" = some (.ref (He.ga K "BadBook"))) (m_BadLives : mg "BadLives" = some (.ref (He.ga K "BadLives"))) (m_BadPasses : mg "BadPasses" = some (.ref (He.ga K "BadPasses"))) (m_BadCrews : mg "BadCrews" = some (.ref (He.ga K "BadCrews"))) (m_BadWish : mg "BadWish" = some (.ref (He.ga K "BadWish"))) (m_BadBounds : mg "BadBounds" = some (.ref (He.ga K "BadBounds"))) (m_BadNotes : mg "BadNotes" = some (.ref (He.ga K "BadNotes"))) (m_BadLists : mg "BadLists" = some (.ref (He.ga K "BadLists"))) (m_BadGroup : mg "BadGroup" = some (.ref (He.ga K "BadGroup"))) (m_BadCompany : mg "BadCompany" = some (.ref (He.ga K "BadCompany"))) (m_BadTerms : mg "BadTerms" = some (.ref (He.ga K "BadTerms"))) (m_BadLottery : mg "BadLottery" = some (.ref (He.ga K "BadLottery"))) (m_BadLine : mg "BadLine" = some (.ref (He.ga K "BadLine"))) (m_NoBook : mg "NoBook" = some (.ref (He.ga K "NoBook"))) (m_GoalLost : mg "GoalLost" = some (.ref (He.ga K "GoalLost"))) (m_NothingLeft : mg "NothingLeft" = some (.ref (He.ga K "NothingLeft"))) (t_OutOfRange : SLX.Txt P K (He.ga K "OutOfRange") (He.ma K (He.ga K "OutOfRange") "__init__") "OutOfRange.__init__" aOutOfRange (SLX.body2 qOutOfRange) ["self", "at", "code"]) (c_OutOfRange : SLX.Calls (He.ma K (He.ga K "OutOfRange") "__init__") "OutOfRange.__init__" ["self", "at", "code"] (.Name "code" (qOutOfRange 0)) (qOutOfRange 1) (qOutOfRange 2) (qOutOfRange 3) (qOutOfRange 4) (qOutOfRange 5)) (na_OutOfRange : PySem.W.findIn K (.ref (He.ga K "OutOfRange")) "at" = some none ∧ PySem.W.findIn K (.ref (He.ga K "OutOfRange")) "code" = some none) (t_BadDepot : SLX.Txt P K (He.ga K "BadDepot") (He.ma K (He.ga K "BadDepot") "__init__") "BadDepot.__init__" aBadDepot (SLX.body2 qBadDepot) ["self", "at", "code"]) (c_BadDepot : SLX.Calls (He.ma K (He.ga K "BadDepot") "__init__") "BadDepot.__init__" ["self", "at", "code"] (.Name "code" (qBadDepot 0)) (qBadDepot 1) (qBadDepot 2) (qBadDepot 3) (qBadDepot 4) (qBadDepot 5)) (na_BadDepot : PySem.W.findIn K (.ref (He.ga K "BadDepot")) "at" = some none ∧ PySem.W.findIn K (.ref (He.ga K "BadDepot")) "code" = some none) (t_BadBook : SLX.Txt P K (He.ga K "BadBook") (He.ma K (He.ga K "BadBook") "__init__") "BadBook.__init__" aBadBook (SLX.body2 qBadBook) ["self", "at", "code"]) (c_BadBook : SLX.Calls (He.ma K (He.ga K "BadBook") "__init__") "BadBook.__init__" ["self", "at", "code"] (.Name "code" (qBadBook 0)) (qBadBook 1) (qBadBook 2) (qBadBook 3) (qBadBook 4) (qBadBook 5)) (na_BadBook : PySem.W.findIn K (.ref (He.ga K "BadBook")) "at" = some none ∧ PySem.W.findIn K (.ref (He.ga K "BadBook")) "code" = some none) (t_BadLives : SLX.Txt P K (He.ga K "BadLives") (He.ma K (He.ga K "BadLives") "__init__") "BadLives.__init__" aBadLives (SLX.body2 qBadLives) ["self", "at", "code"]) (c_BadLives : SLX.Calls (He.ma K (He.ga K "BadLives") "__init__") "BadLives.__init__" ["self", "at", "code"] (.Name "code" (qBadLives 0)) (qBadLives 1) (qBadLives 2) (qBadLives 3) (qBadLives 4) (qBadLives 5)) (na_BadLives : PySem.W.findIn K (.ref (He.ga K "BadLives")) "at" = some none ∧ PySem.W.findIn K (.ref (He.ga K "BadLives")) "code" = some none) (t_BadPasses : SLX.Txt P K (He.ga K "BadPasses") (He.ma K (He.ga K "BadPasses") "__init__") "BadPasses.__init__" aBadPasses (SLX.body2 qBadPasses) ["self", "at", "code"]) (c_BadPasses : SLX.Calls (He.ma K (He.ga K "BadPasses") "__init__") "BadPasses.__init__" ["self", "at", "code"] (.Name "code" (qBadPasses 0)) (qBadPasses 1) (qBadPasses 2) (qBadPasses 3) (qBadPasses 4) (qBadPasses 5)) (na_BadPasses : PySem.W.findIn K (.ref (He.ga K "BadPasses")) "at" = some none ∧ PySem.W.findIn K (.ref (He.ga K "BadPasses")) "code" = some none) (t_BadCrews : SLX.Txt P K (He.ga K "BadCrews") (He.ma K (He.ga K "BadCrews") "__init__") "BadCrews.__init__" aBadCrews (SLX.body2 qBadCrews) ["self", "at", "code"]) (c_BadCrews : SLX.Calls (He.ma K (He.ga K "BadCrews") "__init__") "BadCrews.__init__" ["self", "at", "code"] (.Name "code" (qBadCrews 0)) (qBadCrews 1) (qBadCrews 2) (qBadCrews 3) (qBadCrews 4) (qBadCrews 5)) (na_BadCrews : PySem.W.findIn K (.ref (He.ga K "BadCrews")) "at" = some none ∧ PySem.W.findIn K (.ref (He.ga K "BadCrews")) "code" = some none) (t_BadWish : SLX.Txt P K (He.ga K "BadWish") (He.ma K (He.ga K "BadWish") "__init__") "BadWish.__init__" aBadWish (SLX.body2 qBadWish) ["self", "at", "code"]) (c_BadWish : SLX.Calls (He.ma K (He.ga K "BadWish") "__init__") "BadWish.__init__" ["self", "at", "code"] (.Name "code" (qBadWish 0)) (qBadWish 1) (qBadWish 2) (qBadWish 3) (qBadWish 4) (qBadWish 5)) (na_BadWish : PySem.W.findIn K (.ref (He.ga K "BadWish")) "at" = some none ∧ PySem.W.findIn K (.ref (He.ga K "BadWish")) "code" = some none) (t_BadBounds : SLX.Txt P K (He.ga K "BadBounds") (He.ma K (He.ga K "BadBounds") "__init__") "BadBounds.__init__" aBadBounds (SLX.body2 qBadBounds) ["self", "at", "code"]) (c_BadBounds : SLX.Calls (He.ma K (He.ga K "BadBounds") "__init__") "BadBounds.__init__" ["self", "at", "code"] (.Name "code" (qBadBounds 0)) (qBadBounds 1) (qBadBounds 2) (qBadBounds 3) (qBadBounds 4) (qBadBounds 5)) (na_BadBounds : PySem.W.findIn K (.ref (He.ga K "BadBounds")) "at" = some none ∧ PySem.W.findIn K (.ref (He.ga K "BadBounds")) "code" = some none) (t_BadNotes : SLX.Txt P K (He.ga K "BadNotes") (He.ma K (He.ga K "BadNotes") "__init__") "BadNotes.__init__" aBadNotes (SLX.body2 qBadNotes) ["self", "at", "code"]) (c_BadNotes : SLX.Calls (He.ma K (He.ga K "BadNotes") "__init__") "BadNotes.__init__" ["self", "at", "code"] (.Name "code" (qBadNotes 0)) (qBadNotes 1) (qBadNotes 2) (qBadNotes 3) (qBadNotes 4) (qBadNotes 5)) (na_BadNotes : PySem.W.findIn K (.ref (He.ga K "BadNotes")) "at" = some none ∧ PySem.W.findIn K (.ref (He.ga K "BadNotes")) "code" = some none) (t_BadLists : SLX.Txt P K (He.ga K "BadLists") (He.ma K (He.ga K "BadLists") "__init__") "BadLists.__init__" aBadLists (SLX.body2 qBadLists) ["self", "at", "code"]) (c_BadLists : SLX.Calls (He.ma K (He.ga K "BadLists") "__init__") "BadLists.__init__" ["self", "at", "code"] (.Name "code" (qBadLists 0)) (qBadLists 1) (qBadLists 2) (qBadLists 3) (qBadLists 4) (qBadLists 5)) (na_BadLists : PySem.W.findIn K (.ref (He.ga K "BadLists")) "at" = some none ∧ PySem.W.findIn K (.ref (He.ga K "BadLists")) "code" = some none) (t_BadLine : SLX.Txt P K (He.ga K "BadLine") (He.ma K (He.ga K "BadLine") "__init__") "BadLine.__init__" aBadLine (SLX.body2 qBadLine) ["self", "at", "code"]) (c_BadLine : SLX.Calls (He.ma K (He.ga K "BadLine") "__init__") "BadLine.__init__" ["self", "at", "code"] (.Name "code" (qBadLine 0)) (qBadLine 1) (qBadLine 2) (qBadLine 3) (qBadLine 4) (qBadLine 5)) (na_BadLine : PySem.W.findIn K (.ref (He.ga K "BadLine")) "at" = some none ∧ PySem.W.findIn K (.ref (He.ga K "BadLine")) "code" = some none) (t_BadGroup : SLX.Txt P K (He.ga K "BadGroup") (He.ma K (He.ga K "BadGroup") "__init__") "BadGroup.__init__" aBadGroup (SLX.body2 qBadGroup) ["self", "at", "code"]) (c_BadGroup : SLX.Calls (He.ma K (He.ga K "BadGroup") "__init__") "BadGroup.__init__" ["self", "at", "code"] (.Name "code" (qBadGroup 0)) (qBadGroup 1) (qBadGroup 2) (qBadGroup 3) (qBadGroup 4) (qBadGroup 5)) (na_BadGroup : PySem.W.findIn K (.ref (He.ga K "BadGroup")) "at" = some none ∧ PySem.W.findIn K (.ref (He.ga K "BadGroup")) "code" = some none) (t_BadCompany : SLX.Txt P K (He.ga K "BadCompany") (He.ma K (He.ga K "BadCompany") "__init__") "BadCompany.__init__" aBadCompany (SLX.body2 qBadCompany) ["self", "at", "code"]) (c_BadCompany : SLX.Calls (He.ma K (He.ga K "BadCompany") "__init__") "BadCompany.__init__" ["self", "at", "code"] (.Name "code" (qBadCompany 0)) (qBadCompany 1) (qBadCompany 2) (qBadCompany 3) (qBadCompany 4) (qBadCompany 5)) (na_BadCompany : PySem.W.findIn K (.ref (He.ga K "BadCompany")) "at" = some none ∧ PySem.W.findIn K (.ref (He.ga K "BadCompany")) "code" = some none) (t_BadTerms : SLX.Txt P K (He.ga K "BadTerms") (He.ma K (He.ga K "BadTerms") "__init__") "BadTerms.__init__" aBadTerms (SLX.body2 qBadTerms) ["self", "at", "code"]) (c_BadTerms : SLX.Calls (He.ma K (He.ga K "BadTerms") "__init__") "BadTerms.__init__" ["self", "at", "code"] (.Name "code" (qBadTerms 0)) (qBadTerms 1) (qBadTerms 2) (qBadTerms 3) (qBadTerms 4) (qBadTerms 5)) (na_BadTerms : PySem.W.findIn K (.ref (He.ga K "BadTerms")) "at" = some none ∧ PySem.W.findIn K (.ref (He.ga K "BadTerms")) "code" = some none) (t_BadLottery : SLX.Txt P K (He.ga K "BadLottery") (He.ma K (He.ga K "BadLottery") "__init__") "BadLottery.__init__" aBadLottery (SLX.body2 qBadLottery) ["self", "at", "code"]) (c_BadLottery : SLX.Calls (He.ma K (He.ga K "BadLottery") "__init__") "BadLottery.__init__" ["self", "at", "code"] (.Name "code" (qBadLottery 0)) (qBadLottery 1) (qBadLottery 2) (qBadLottery 3) (qBadLottery 4) (qBadLottery 5)) (na_BadLottery : PySem.W.findIn K (.ref (He.ga K "BadLottery")) "at" = some none ∧ PySem.W.findIn K (.ref (He.ga K "BadLottery")) "code" = some none) (t_NoBook : SLX.Txt P K (He.ga K "NoBook") (He.ma K (He.ga K "NoBook") "__init__") "NoBook.__init__" aNoBook (SLX.body1 (.str zNoBook) 0 qNoBook) ["self", "reason"]) (c_NoBook : SLX.Calls (He.ma K (He.ga K "NoBook") "__init__") "NoBook.__init__" ["self", "reason"] (.Constant (.str zNoBook) 0 (qNoBook 0)) (qNoBook 1) (qNoBook 2) (qNoBook 3) (qNoBook 4) (qNoBook 5)) (nr_NoBook : PySem.W.findIn K (.ref (He.ga K "NoBook")) "reason" = some none) (t_GoalLost : SLX.Txt P K (He.ga K "GoalLost") (He.ma K (He.ga K "GoalLost") "__init__") "GoalLost.__init__" aGoalLost (SLX.body1 (.str zGoalLost) 0 qGoalLost) ["self", "reason"]) (c_GoalLost : SLX.Calls (He.ma K (He.ga K "GoalLost") "__init__") "GoalLost.__init__" ["self", "reason"] (.Constant (.str zGoalLost) 0 (qGoalLost 0)) (qGoalLost 1) (qGoalLost 2) (qGoalLost 3) (qGoalLost 4) (qGoalLost 5)) (nr_GoalLost : PySem.W.findIn K (.ref (He.ga K "GoalLost")) "reason" = some none) (e0_NothingLeft : PySem.W.excIn K (He.ga K "NothingLeft") SLX.veB "ValueError.__new__" = true ∧ PySem.W.keepIn K (.ref (He.ga K "NothingLeft")) = true) (cdv : Value) (A : Around) (outer : List Env) (s : Shared) (H : Hp) (E : XK) (c : Ct) (Ke : KE) (hr : Room k (A.deeper (envOfC "_law_made" (defScope s_law_made) s.heap.objs.size (He.ga K "_law_made") cdv))) (tk : Takes (cxOf (L2.CX P w) P w K mg base ["k", "at", "code", "reason"] "_law_made" (defScope s_law_made) (He.ga K "_law_made") cdv A outer s H E) (wxS K c Ke)) :
    PSs (cxOf (L2.CX P w) P w K mg base ["k", "at", "code", "reason"] "_law_made" (defScope s_law_made) (He.ga K "_law_made") cdv A outer s H E) (defBody s_law_made) (tS K c Ke (W_law_made K )) := by
  have sc := sc_law_made
  have hu : (A.deeper (envOfC "_law_made" (defScope s_law_made) s.heap.objs.size (He.ga K "_law_made") cdv)).units + 64 < cLine := by have := hr.un; omega
  exact (i_scons (i_if (i_teq (by exact hu) (i_var 0) i_int) (i_sone (i_ret (i_val2 t_OutOfRange c_OutOfRange (na_OutOfRange).1 (na_OutOfRange).2 hr (by rfl) m_OutOfRange (i_cons (i_var 1) (i_cons (i_var 2) i_nil))))) i_snil)
  (i_scons (i_if (i_teq (by exact hu) (i_var 0) i_int) (i_sone (i_ret (i_val2 t_BadDepot c_BadDepot (na_BadDepot).1 (na_BadDepot).2 hr (by rfl) m_BadDepot (i_cons (i_var 1) (i_cons (i_var 2) i_nil))))) i_snil)
  (i_scons (i_if (i_teq (by exact hu) (i_var 0) i_int) (i_sone (i_ret (i_val2 t_BadBook c_BadBook (na_BadBook).1 (na_BadBook).2 hr (by rfl) m_BadBook (i_cons (i_var 1) (i_cons (i_var 2) i_nil))))) i_snil)
  (i_scons (i_if (i_teq (by exact hu) (i_var 0) i_int) (i_sone (i_ret (i_val2 t_BadLives c_BadLives (na_BadLives).1 (na_BadLives).2 hr (by rfl) m_BadLives (i_cons (i_var 1) (i_cons (i_var 2) i_nil))))) i_snil)
  (i_scons (i_if (i_teq (by exact hu) (i_var 0) i_int) (i_sone (i_ret (i_val2 t_BadPasses c_BadPasses (na_BadPasses).1 (na_BadPasses).2 hr (by rfl) m_BadPasses (i_cons (i_var 1) (i_cons (i_var 2) i_nil))))) i_snil)
  (i_scons (i_if (i_teq (by exact hu) (i_var 0) i_int) (i_sone (i_ret (i_val2 t_BadCrews c_BadCrews (na_BadCrews).1 (na_BadCrews).2 hr (by rfl) m_BadCrews (i_cons (i_var 1) (i_cons (i_var 2) i_nil))))) i_snil)
  (i_scons (i_if (i_teq (by exact hu) (i_var 0) i_int) (i_sone (i_ret (i_val2 t_BadWish c_BadWish (na_BadWish).1 (na_BadWish).2 hr (by rfl) m_BadWish (i_cons (i_var 1) (i_cons (i_var 2) i_nil))))) i_snil)
  (i_scons (i_if (i_teq (by exact hu) (i_var 0) i_int) (i_sone (i_ret (i_val2 t_BadBounds c_BadBounds (na_BadBounds).1 (na_BadBounds).2 hr (by rfl) m_BadBounds (i_cons (i_var 1) (i_cons (i_var 2) i_nil))))) i_snil)
  (i_scons (i_if (i_teq (by exact hu) (i_var 0) i_int) (i_sone (i_ret (i_val2 t_BadNotes c_BadNotes (na_BadNotes).1 (na_BadNotes).2 hr (by rfl) m_BadNotes (i_cons (i_var 1) (i_cons (i_var 2) i_nil))))) i_snil)
  (i_scons (i_if (i_teq (by exact hu) (i_var 0) i_int) (i_sone (i_ret (i_val2 t_BadLists c_BadLists (na_BadLists).1 (na_BadLists).2 hr (by rfl) m_BadLists (i_cons (i_var 1) (i_cons (i_var 2) i_nil))))) i_snil)
  (i_scons (i_if (i_teq (by exact hu) (i_var 0) i_int) (i_sone (i_ret (i_val2 t_BadLine c_BadLine (na_BadLine).1 (na_BadLine).2 hr (by rfl) m_BadLine (i_cons (i_var 1) (i_cons (i_var 2) i_nil))))) i_snil)
  (i_scons (i_if (i_teq (by exact hu) (i_var 0) i_int) (i_sone (i_ret (i_val2 t_BadGroup c_BadGroup (na_BadGroup).1 (na_BadGroup).2 hr (by rfl) m_BadGroup (i_cons (i_var 1) (i_cons (i_var 2) i_nil))))) i_snil)
  (i_scons (i_if (i_teq (by exact hu) (i_var 0) i_int) (i_sone (i_ret (i_val2 t_BadCompany c_BadCompany (na_BadCompany).1 (na_BadCompany).2 hr (by rfl) m_BadCompany (i_cons (i_var 1) (i_cons (i_var 2) i_nil))))) i_snil)
  (i_scons (i_if (i_teq (by exact hu) (i_var 0) i_int) (i_sone (i_ret (i_val2 t_BadTerms c_BadTerms (na_BadTerms).1 (na_BadTerms).2 hr (by rfl) m_BadTerms (i_cons (i_var 1) (i_cons (i_var 2) i_nil))))) i_snil)
  (i_scons (i_if (i_teq (by exact hu) (i_var 0) i_int) (i_sone (i_ret (i_val2 t_BadLottery c_BadLottery (na_BadLottery).1 (na_BadLottery).2 hr (by rfl) m_BadLottery (i_cons (i_var 1) (i_cons (i_var 2) i_nil))))) i_snil)
  (i_scons (i_if (i_teq (by exact hu) (i_var 0) i_int) (i_sone (i_ret (i_val1 t_NoBook c_NoBook nr_NoBook hr (by rfl) m_NoBook (i_cons (i_var 3) i_nil)))) i_snil)
  (i_scons (i_if (i_teq (by exact hu) (i_var 0) i_int) (i_sone (i_ret (i_val1 t_GoalLost c_GoalLost nr_GoalLost hr (by rfl) m_GoalLost (i_cons (i_var 3) i_nil)))) i_snil)
  (i_sone (i_ret (i_val0 PySem.F.excBase_ValueError e0_NothingLeft.1 m_NothingLeft e0_NothingLeft.2 (by rfl)))))))))))))))))))))
def W_law_kin (K : PySem.W.Frag)  : WS := (wSeq (wAsg (wLst (wCons (wIs K (excCs K) [] (.ref (He.ga K "OutOfRange")) (wVar 0)) (wCons (wIs K (excCs K) [] (.ref (He.ga K "BadDepot")) (wVar 0)) (wCons (wIs K (excCs K) [] (.ref (He.ga K "BadBook")) (wVar 0)) (wCons (wIs K (excCs K) [] (.ref (He.ga K "BadLives")) (wVar 0)) wNil))))) (sto 1))
  (wSeq (wAsg (w2 wPlus (wVar 1) (wLst (wCons (wIs K (excCs K) [] (.ref (He.ga K "BadPasses")) (wVar 0)) (wCons (wIs K (excCs K) [] (.ref (He.ga K "BadCrews")) (wVar 0)) (wCons (wIs K (excCs K) [] (.ref (He.ga K "BadWish")) (wVar 0)) (wCons (wIs K (excCs K) [] (.ref (He.ga K "BadBounds")) (wVar 0)) wNil)))))) (sto 1))
  (wSeq (wAsg (w2 wPlus (wVar 1) (wLst (wCons (wIs K (excCs K) [] (.ref (He.ga K "BadNotes")) (wVar 0)) (wCons (wIs K (excCs K) [] (.ref (He.ga K "BadLists")) (wVar 0)) (wCons (wIs K (excCs K) [] (.ref (He.ga K "BadLine")) (wVar 0)) (wCons (wIs K (excCs K) [] (.ref (He.ga K "BadGroup")) (wVar 0)) wNil)))))) (sto 1))
  (wSeq (wAsg (w2 wPlus (wVar 1) (wLst (wCons (wIs K (excCs K) [] (.ref (He.ga K "BadCompany")) (wVar 0)) (wCons (wIs K (excCs K) [] (.ref (He.ga K "BadTerms")) (wVar 0)) (wCons (wIs K (excCs K) [] (.ref (He.ga K "BadLottery")) (wVar 0)) wNil))))) (sto 1))
  (wRet (w2 wPlus (wVar 1) (wLst (wCons (wIs K (excCs K) [] (.ref (He.ga K "NoBook")) (wVar 0)) (wCons (wIs K (excCs K) [] (.ref (He.ga K "GoalLost")) (wVar 0)) (wCons (wIs K (excCs K) [] (.ref (He.ga K "NothingLeft")) (wVar 0)) wNil))))))))))
theorem sc_law_kin : FnScope ["e", "kin"] ["e"] (defScope s_law_kin) := ⟨rfl, rfl, rfl, by decide +kernel, rfl, by decide +kernel, by decide +kernel⟩
theorem der_law_kin (f_isinstance : mg "isinstance" = none) (m_OutOfRange : mg "OutOfRange" = some (.ref (He.ga K "OutOfRange"))) (m_BadDepot : mg "BadDepot" = some (.ref (He.ga K "BadDepot"))) (m_BadBook : mg "BadBook" = some (.ref (He.ga K "BadBook"))) (m_BadLives : mg "BadLives" = some (.ref (He.ga K "BadLives"))) (m_BadPasses : mg "BadPasses" = some (.ref (He.ga K "BadPasses"))) (m_BadCrews : mg "BadCrews" = some (.ref (He.ga K "BadCrews"))) (m_BadWish : mg "BadWish" = some (.ref (He.ga K "BadWish"))) (m_BadBounds : mg "BadBounds" = some (.ref (He.ga K "BadBounds"))) (m_BadNotes : mg "BadNotes" = some (.ref (He.ga K "BadNotes"))) (m_BadLists : mg "BadLists" = some (.ref (He.ga K "BadLists"))) (m_BadGroup : mg "BadGroup" = some (.ref (He.ga K "BadGroup"))) (m_BadCompany : mg "BadCompany" = some (.ref (He.ga K "BadCompany"))) (m_BadTerms : mg "BadTerms" = some (.ref (He.ga K "BadTerms"))) (m_BadLottery : mg "BadLottery" = some (.ref (He.ga K "BadLottery"))) (m_BadLine : mg "BadLine" = some (.ref (He.ga K "BadLine"))) (m_NoBook : mg "NoBook" = some (.ref (He.ga K "NoBook"))) (m_GoalLost : mg "GoalLost" = some (.ref (He.ga K "GoalLost"))) (m_NothingLeft : mg "NothingLeft" = some (.ref (He.ga K "NothingLeft"))) (hCs : ∀ C ∈ excCs K, IsC K C) (cdv : Value) (A : Around) (outer : List Env) (s : Shared) (H : Hp) (E : XK) (c : Ct) (Ke : KE) (hr : Room k (A.deeper (envOfC "_law_kin" (defScope s_law_kin) s.heap.objs.size (He.ga K "_law_kin") cdv))) (tk : Takes (cxOf (L2.CX P w) P w K mg base ["e", "kin"] "_law_kin" (defScope s_law_kin) (He.ga K "_law_kin") cdv A outer s H E) (wxS K c Ke)) :
    PSs (cxOf (L2.CX P w) P w K mg base ["e", "kin"] "_law_kin" (defScope s_law_kin) (He.ga K "_law_kin") cdv A outer s H E) (defBody s_law_kin) (tS K c Ke (W_law_kin K )) := by
  have sc := sc_law_kin
  have hu : (A.deeper (envOfC "_law_kin" (defScope s_law_kin) s.heap.objs.size (He.ga K "_law_kin") cdv)).units + 64 < cLine := by have := hr.un; omega
  exact (i_scons (i_asg (i_lst (i_cons (i_is (by exact hCs) (fun _ h => absurd h List.not_mem_nil) (i_var 0) (by rfl) f_isinstance (pe_glob (v := .ref (He.ga K "OutOfRange")) (by rfl) m_OutOfRange (by rfl)) (.own _)) (i_cons (i_is (by exact hCs) (fun _ h => absurd h List.not_mem_nil) (i_var 0) (by rfl) f_isinstance (pe_glob (v := .ref (He.ga K "BadDepot")) (by rfl) m_BadDepot (by rfl)) (.own _)) (i_cons (i_is (by exact hCs) (fun _ h => absurd h List.not_mem_nil) (i_var 0) (by rfl) f_isinstance (pe_glob (v := .ref (He.ga K "BadBook")) (by rfl) m_BadBook (by rfl)) (.own _)) (i_cons (i_is (by exact hCs) (fun _ h => absurd h List.not_mem_nil) (i_var 0) (by rfl) f_isinstance (pe_glob (v := .ref (He.ga K "BadLives")) (by rfl) m_BadLives (by rfl)) (.own _)) i_nil))))) (i_gname 1 (pg_name sc.nd (by rfl) (by first | exact .inl rfl | exact .inr rfl))))
  (i_scons (i_asg (i_plus (i_var 1) (i_lst (i_cons (i_is (by exact hCs) (fun _ h => absurd h List.not_mem_nil) (i_var 0) (by rfl) f_isinstance (pe_glob (v := .ref (He.ga K "BadPasses")) (by rfl) m_BadPasses (by rfl)) (.own _)) (i_cons (i_is (by exact hCs) (fun _ h => absurd h List.not_mem_nil) (i_var 0) (by rfl) f_isinstance (pe_glob (v := .ref (He.ga K "BadCrews")) (by rfl) m_BadCrews (by rfl)) (.own _)) (i_cons (i_is (by exact hCs) (fun _ h => absurd h List.not_mem_nil) (i_var 0) (by rfl) f_isinstance (pe_glob (v := .ref (He.ga K "BadWish")) (by rfl) m_BadWish (by rfl)) (.own _)) (i_cons (i_is (by exact hCs) (fun _ h => absurd h List.not_mem_nil) (i_var 0) (by rfl) f_isinstance (pe_glob (v := .ref (He.ga K "BadBounds")) (by rfl) m_BadBounds (by rfl)) (.own _)) i_nil)))))) (i_gname 1 (pg_name sc.nd (by rfl) (by first | exact .inl rfl | exact .inr rfl))))
  (i_scons (i_asg (i_plus (i_var 1) (i_lst (i_cons (i_is (by exact hCs) (fun _ h => absurd h List.not_mem_nil) (i_var 0) (by rfl) f_isinstance (pe_glob (v := .ref (He.ga K "BadNotes")) (by rfl) m_BadNotes (by rfl)) (.own _)) (i_cons (i_is (by exact hCs) (fun _ h => absurd h List.not_mem_nil) (i_var 0) (by rfl) f_isinstance (pe_glob (v := .ref (He.ga K "BadLists")) (by rfl) m_BadLists (by rfl)) (.own _)) (i_cons (i_is (by exact hCs) (fun _ h => absurd h List.not_mem_nil) (i_var 0) (by rfl) f_isinstance (pe_glob (v := .ref (He.ga K "BadLine")) (by rfl) m_BadLine (by rfl)) (.own _)) (i_cons (i_is (by exact hCs) (fun _ h => absurd h List.not_mem_nil) (i_var 0) (by rfl) f_isinstance (pe_glob (v := .ref (He.ga K "BadGroup")) (by rfl) m_BadGroup (by rfl)) (.own _)) i_nil)))))) (i_gname 1 (pg_name sc.nd (by rfl) (by first | exact .inl rfl | exact .inr rfl))))
  (i_scons (i_asg (i_plus (i_var 1) (i_lst (i_cons (i_is (by exact hCs) (fun _ h => absurd h List.not_mem_nil) (i_var 0) (by rfl) f_isinstance (pe_glob (v := .ref (He.ga K "BadCompany")) (by rfl) m_BadCompany (by rfl)) (.own _)) (i_cons (i_is (by exact hCs) (fun _ h => absurd h List.not_mem_nil) (i_var 0) (by rfl) f_isinstance (pe_glob (v := .ref (He.ga K "BadTerms")) (by rfl) m_BadTerms (by rfl)) (.own _)) (i_cons (i_is (by exact hCs) (fun _ h => absurd h List.not_mem_nil) (i_var 0) (by rfl) f_isinstance (pe_glob (v := .ref (He.ga K "BadLottery")) (by rfl) m_BadLottery (by rfl)) (.own _)) i_nil))))) (i_gname 1 (pg_name sc.nd (by rfl) (by first | exact .inl rfl | exact .inr rfl))))
  (i_sone (i_ret (i_plus (i_var 1) (i_lst (i_cons (i_is (by exact hCs) (fun _ h => absurd h List.not_mem_nil) (i_var 0) (by rfl) f_isinstance (pe_glob (v := .ref (He.ga K "NoBook")) (by rfl) m_NoBook (by rfl)) (.own _)) (i_cons (i_is (by exact hCs) (fun _ h => absurd h List.not_mem_nil) (i_var 0) (by rfl) f_isinstance (pe_glob (v := .ref (He.ga K "GoalLost")) (by rfl) m_GoalLost (by rfl)) (.own _)) (i_cons (i_is (by exact hCs) (fun _ h => absurd h List.not_mem_nil) (i_var 0) (by rfl) f_isinstance (pe_glob (v := .ref (He.ga K "NothingLeft")) (by rfl) m_NothingLeft (by rfl)) (.own _)) i_nil)))))))))))
def W_law_holds (K : PySem.W.Frag) (C_law_kin : Con) (C_law_same : Con) : WS := (wSeq (wIf (wOr (wNot (wTB (wIs K (excCs K) [] (.ref (He.ga K "EverymorningError")) (wVar 1)))) (wNot (wTB (wIs K (excCs K) [] (.type "ValueError") (wVar 1))))) (wRet (wC (.bl false))) wSkip)
  (wSeq (wIf (wTB (w2 wNe (wCall 1 C_law_kin [.bo] (wCons (wVar 1) wNil)) (wLc (wRange1 (wCons (wC (.int 18)) wNil)) [3] (sto 3) wYes (w2 wEq (wVar 3) (wVar 0))))) (wRet (wC (.bl false))) wSkip)
  (wSeq (wIf (wTB (w2 wLt (wVar 0) (wC (.int 15)))) (wRet (wAndV (wCall 2 C_law_same [.bo, .bo] (wCons (w1 (wXv (Ca K) "at") (wVar 1)) (wCons (w2 wItem (wVar 2) (wC (.int 0))) wNil))) (wCall 2 C_law_same [.bo, .bo] (wCons (w1 (wXv (Ca K) "code") (wVar 1)) (wCons (w2 wItem (wVar 2) (wC (.int 1))) wNil))))) wSkip)
  (wRet (wOrV (w2 wEq (wVar 0) (wC (.int 17))) (wCall 2 C_law_same [.bo, .bo] (wCons (w1 (wXv (Cr K) "reason") (wVar 1)) (wCons (w2 wItem (wVar 2) (wC (.int 2))) wNil))))))))
theorem sc_law_holds : FnScope ["k", "e", "drawn", "i"] ["k", "e", "drawn"] (defScope s_law_holds) := ⟨rfl, rfl, rfl, by decide +kernel, rfl, by decide +kernel, by decide +kernel⟩
theorem der_law_holds {C_law_kin : Con} (g_law_kin : Good P w K mg base k "_law_kin" ["e"] C_law_kin) {C_law_same : Con} (g_law_same : Good P w K mg base k "_law_same" ["got", "due"] C_law_same) (f_isinstance : mg "isinstance" = none) (f_ValueError : mg "ValueError" = none) (f_range : mg "range" = none) (m_EverymorningError : mg "EverymorningError" = some (.ref (He.ga K "EverymorningError"))) (hCs : ∀ C ∈ excCs K, IsC K C) (hCa_at : ∀ C ∈ Ca K, XfC K C ∧ PySem.W.findIn K (.ref C) "at" = some none) (hCa_code : ∀ C ∈ Ca K, XfC K C ∧ PySem.W.findIn K (.ref C) "code" = some none) (hCr_reason : ∀ C ∈ Cr K, XfC K C ∧ PySem.W.findIn K (.ref C) "reason" = some none) (cdv : Value) (A : Around) (outer : List Env) (s : Shared) (H : Hp) (E : XK) (c : Ct) (Ke : KE) (hr : Room k (A.deeper (envOfC "_law_holds" (defScope s_law_holds) s.heap.objs.size (He.ga K "_law_holds") cdv))) (tk : Takes (cxOf (L2.CX P w) P w K mg base ["k", "e", "drawn", "i"] "_law_holds" (defScope s_law_holds) (He.ga K "_law_holds") cdv A outer s H E) (wxS K c Ke)) :
    PSs (cxOf (L2.CX P w) P w K mg base ["k", "e", "drawn", "i"] "_law_holds" (defScope s_law_holds) (He.ga K "_law_holds") cdv A outer s H E) (defBody s_law_holds) (tS K c Ke (W_law_holds K C_law_kin C_law_same)) := by
  have sc := sc_law_holds
  have hu : (A.deeper (envOfC "_law_holds" (defScope s_law_holds) s.heap.objs.size (He.ga K "_law_holds") cdv)).units + 64 < cLine := by have := hr.un; omega
  exact (i_scons (i_if (PW.pt (i_or (i_not (i_tb (i_is (by exact hCs) (fun _ h => absurd h List.not_mem_nil) (i_var 1) (by rfl) f_isinstance (pe_glob (v := .ref (He.ga K "EverymorningError")) (by rfl) m_EverymorningError (by rfl)) (.own _)))) (i_or1 (i_not (i_tb (i_is (by exact hCs) (fun _ h => absurd h List.not_mem_nil) (i_var 1) (by rfl) f_isinstance (pe_bltn (v := .ty "ValueError") (u := .type "ValueError") (by rfl) f_ValueError (by decide +kernel) (by rfl)) (.ty "ValueError"))))))) (i_sone (i_ret i_bl)) i_snil)
  (i_scons (i_if (i_tne (by exact hu) (i_callG (pr := ["e"]) (C := C_law_kin) [.bo] (by exact g_law_kin) (by exact hr) (by rfl) (by exact tk) (i_cons (i_var 1) i_nil)) (by exact (i_lc (by rfl) sc.nd (by exact (i_range1 (by rfl) f_range (i_cons i_int i_nil))) (blkOk_by (own := [("i", 3)]) (by rfl)) (fun s H C cl fp => (i_gname 3 (pg_name sc.nd (by rfl) (by first | exact .inl rfl | exact .inr rfl)))) (fun s H C cl fp => i_yes) (fun s H C cl fp => (i_eq (by exact hu) (i_var 3) (i_var 0))) (by decide)))) (i_sone (i_ret i_bl)) i_snil)
  (i_scons (i_if (i_tlt (i_var 0) i_int) (i_sone (i_ret (i_andV (i_callG (pr := ["got", "due"]) (C := C_law_same) [.bo, .bo] (by exact g_law_same) (by exact hr) (by rfl) (by exact tk) (i_cons (i_xv (by exact hCa_at) (i_var 1)) (i_cons (i_it (i_var 2) i_int) i_nil))) (i_one (i_callG (pr := ["got", "due"]) (C := C_law_same) [.bo, .bo] (by exact g_law_same) (by exact hr) (by rfl) (by exact tk) (i_cons (i_xv (by exact hCa_code) (i_var 1)) (i_cons (i_it (i_var 2) i_int) i_nil))))))) i_snil)
  (i_sone (i_ret (i_orV (i_eq (by exact hu) (i_var 0) i_int) (i_one (i_callG (pr := ["got", "due"]) (C := C_law_same) [.bo, .bo] (by exact g_law_same) (by exact hr) (by rfl) (by exact tk) (i_cons (i_xv (by exact hCr_reason) (i_var 1)) (i_cons (i_it (i_var 2) i_int) i_nil))))))))))
def Wlaw  (C_law_pool : Con) (C_law_drawn : Con) (C_law_made : Con) (C_law_holds : Con) : WS := (wSeq (wAsg (wCall 1 C_law_pool [.as] (wCons (wVar 0) wNil)) (sto 1))
  (wSeq (wAsg (wCall 1 C_law_drawn [.io] (wCons (wVar 1) wNil)) (sto 2))
  (wSeq (wAsg (wCall 1 C_law_drawn [.io] (wCons (wVar 1) wNil)) (sto 3))
  (wSeq (wAsg (wLc (wRange1 (wCons (wC (.int 18)) wNil)) [5] (sto 5) wYes (wCall 4 C_law_made [.as, .as, .as, .as] (wCons (wVar 5) (wCons (w2 wItem (wVar 2) (wC (.int 0))) (wCons (w2 wItem (wVar 2) (wC (.int 1))) (wCons (w2 wItem (wVar 2) (wC (.int 2))) wNil)))))) (sto 4))
  (wSeq (wFor (wRange1 (wCons (wC (.int 18)) wNil)) (sto 5) (wSeq (wIf (wNot (wTB (wCall 3 C_law_holds [.as, .bo, .bo] (wCons (wVar 5) (wCons (w2 wItem (wVar 4) (wVar 5)) (wCons (wVar 2) wNil)))))) (wRet (wC (.bl false))) wSkip)
  (wIf (wNot (wTB (wCall 3 C_law_holds [.as, .bo, .bo] (wCons (wVar 5) (wCons (wCall 4 C_law_made [.as, .as, .as, .as] (wCons (wVar 5) (wCons (w2 wItem (wVar 3) (wC (.int 0))) (wCons (w2 wItem (wVar 3) (wC (.int 1))) (wCons (w2 wItem (wVar 3) (wC (.int 2))) wNil))))) (wCons (wVar 3) wNil)))))) (wRet (wC (.bl false))) wSkip)))
  (wSeq (wFor (wRange1 (wCons (wC (.int 18)) wNil)) (sto 5) (wIf (wNot (wTB (wCall 3 C_law_holds [.as, .bo, .bo] (wCons (wVar 5) (wCons (w2 wItem (wVar 4) (wVar 5)) (wCons (wVar 2) wNil)))))) (wRet (wC (.bl false))) wSkip))
  (wRet (wC (.bl true)))))))))
theorem sclaw : FnScope ["script", "pool", "first", "second", "errors", "k"] ["script"] (defScope slaw) := ⟨rfl, rfl, rfl, by decide +kernel, rfl, by decide +kernel, by decide +kernel⟩
theorem derlaw {C_law_pool : Con} (g_law_pool : Good P w K mg base k "_law_pool" ["script"] C_law_pool) {C_law_drawn : Con} (g_law_drawn : Good P w K mg base k "_law_drawn" ["pool"] C_law_drawn) {C_law_made : Con} (g_law_made : Good P w K mg base k "_law_made" ["k", "at", "code", "reason"] C_law_made) {C_law_holds : Con} (g_law_holds : Good P w K mg base k "_law_holds" ["k", "e", "drawn"] C_law_holds) (f_range : mg "range" = none) (cdv : Value) (A : Around) (outer : List Env) (s : Shared) (H : Hp) (E : XK) (c : Ct) (Ke : KE) (hr : Room k (A.deeper (envOfC "law" (defScope slaw) s.heap.objs.size (He.ga K "law") cdv))) (tk : Takes (cxOf (L2.CX P w) P w K mg base ["script", "pool", "first", "second", "errors", "k"] "law" (defScope slaw) (He.ga K "law") cdv A outer s H E) (wxS K c Ke)) :
    PSs (cxOf (L2.CX P w) P w K mg base ["script", "pool", "first", "second", "errors", "k"] "law" (defScope slaw) (He.ga K "law") cdv A outer s H E) (defBody slaw) (tS K c Ke (Wlaw  C_law_pool C_law_drawn C_law_made C_law_holds)) := by
  have sc := sclaw
  have hu : (A.deeper (envOfC "law" (defScope slaw) s.heap.objs.size (He.ga K "law") cdv)).units + 64 < cLine := by have := hr.un; omega
  exact (i_scons (i_asg (i_callG (pr := ["script"]) (C := C_law_pool) [.as] (by exact g_law_pool) (by exact hr) (by rfl) (by exact tk) (i_cons (i_var 0) i_nil)) (i_gname 1 (pg_name sc.nd (by rfl) (by first | exact .inl rfl | exact .inr rfl))))
  (i_scons (i_asg (i_callG (pr := ["pool"]) (C := C_law_drawn) [.io] (by exact g_law_drawn) (by exact hr) (by rfl) (by exact tk) (i_cons (i_var 1) i_nil)) (i_gname 2 (pg_name sc.nd (by rfl) (by first | exact .inl rfl | exact .inr rfl))))
  (i_scons (i_asg (i_callG (pr := ["pool"]) (C := C_law_drawn) [.io] (by exact g_law_drawn) (by exact hr) (by rfl) (by exact tk) (i_cons (i_var 1) i_nil)) (i_gname 3 (pg_name sc.nd (by rfl) (by first | exact .inl rfl | exact .inr rfl))))
  (i_scons (i_setLc (i := 4) (by rfl) sc.nd (by rfl) (by rfl) (by rfl) (by exact (i_range1 (by rfl) f_range (i_cons i_int i_nil))) (blkOk_by (own := [("k", 5)]) (by rfl)) (fun s H C cl fp => (i_gname 5 (pg_name sc.nd (by rfl) (by first | exact .inl rfl | exact .inr rfl)))) (fun s H C cl fp => i_yes) (fun s H C cl fp => (by exact (i_callG (pr := ["k", "at", "code", "reason"]) (C := C_law_made) [.as, .as, .as, .as] (by exact g_law_made) (by exact hr) (by rfl) (by exact tk_none) (i_cons (i_var 5) (i_cons (i_it (i_var 2) i_int) (i_cons (i_it (i_var 2) i_int) (i_cons (i_it (i_var 2) i_int) i_nil))))))) (by decide))
  (i_scons (i_for (by exact passes_of rfl) (by rfl) (i_range1 (by rfl) f_range (i_cons i_int i_nil)) (i_gname 5 (pg_name sc.nd (by rfl) (by first | exact .inl rfl | exact .inr rfl))) (i_scons (i_if (i_not (i_tb (i_callG (pr := ["k", "e", "drawn"]) (C := C_law_holds) [.as, .bo, .bo] (by exact g_law_holds) (by exact hr) (by rfl) (by exact tk) (i_cons (i_var 5) (i_cons (i_it (i_var 4) (i_var 5)) (i_cons (i_var 2) i_nil)))))) (i_sone (i_ret i_bl)) i_snil)
  (i_sone (i_if (i_not (i_tb (i_callG (pr := ["k", "e", "drawn"]) (C := C_law_holds) [.as, .bo, .bo] (by exact g_law_holds) (by exact hr) (by rfl) (by exact tk) (i_cons (i_var 5) (i_cons (by exact (i_callG (pr := ["k", "at", "code", "reason"]) (C := C_law_made) [.as, .as, .as, .as] (by exact g_law_made) (by exact hr) (by rfl) (by exact tk) (i_cons (i_var 5) (i_cons (i_it (i_var 3) i_int) (i_cons (i_it (i_var 3) i_int) (i_cons (i_it (i_var 3) i_int) i_nil)))))) (i_cons (i_var 3) i_nil)))))) (i_sone (i_ret i_bl)) i_snil))))
  (i_scons (i_for (by exact passes_of rfl) (by rfl) (i_range1 (by rfl) f_range (i_cons i_int i_nil)) (i_gname 5 (pg_name sc.nd (by rfl) (by first | exact .inl rfl | exact .inr rfl))) (i_sone (i_if (i_not (i_tb (i_callG (pr := ["k", "e", "drawn"]) (C := C_law_holds) [.as, .bo, .bo] (by exact g_law_holds) (by exact hr) (by rfl) (by exact tk) (i_cons (i_var 5) (i_cons (i_it (i_var 4) (i_var 5)) (i_cons (i_var 2) i_nil)))))) (i_sone (i_ret i_bl)) i_snil)))
  (i_sone (i_ret i_bl))))))))
end
end K97

set_option Elab.async false
set_option linter.all false
set_option maxRecDepth 100000
set_option maxHeartbeats 4000000
namespace K97
open PySem PySem.Spec PyProof.Rows L2 SLH SL
local macro_rules | `(tactic| trivial) => `(tactic| simp only [s_1, s_k1, s_2, s_k2, s_k2', s_cb, s_kA, s_nil, s_cons, s_kC, s_kC', s_c, s_move, s_kMov, s_share, s_kShr, s_lst, s_kLst, s_tup, s_isi, s_tb, s_kTB_sh, s_kTB_br, s_yes, s_and, s_kAnd_t, s_kAnd_f, s_or, s_kOr_t, s_kOr_f, s_not, s_kNot, s_bv, s_kBV, s_andV, s_kAndV_t, s_kAndV_f, s_orV, s_kOrV_t, s_kOrV_f, s_notV, s_kNotV, s_ife, s_kIfE_t, s_kIfE_f, s_ch, s_kCh, s_kCh3, s_call, s_kCall, s_cal, s_bm, s_kBM, s_kBM', s_seq, s_seq_nx, s_seq_rt, s_seq_bk, s_seq_ct, s_seq_ex, s_skip, s_brk, s_cnt, s_retN, s_asg, s_kAsg, s_drop, s_kDrop, s_if, s_kIf_t, s_kIf_f, s_sto_sh, s_sto_br, s_sto_ow, s_stI, s_kStI1, s_kStI2, s_augN, s_kAug1, s_kAug2, s_for, s_lup_nx, s_lup_ct, s_lup_bk, s_lup_rt, s_lup_ex, s_kItm, s_itm, s_range1, s_kR1, s_range2, s_kR2, s_kWh_t, s_kWh_f, s_kLcF, s_kLcT_t, s_kLcT_f, s_kLcG, s_kLcD, s_lc, s_opt, s_optN, s_kAt, s_kSh, s_kBl, s_pk_sh, s_pk_br, s_pk_ow, s_pk_at, s_pkT, s_toD_sh, s_toD_br, s_toD_lst, s_toD_ins, s_item_at, s_itemT, s_item_st, s_item_sl, s_item_ss, s_item_bt, s_item_bl, s_item_ow, s_i0, s_i, s_neg, s_plus, s_plus_s, s_plus_t, s_plus_oo, s_plus_ao, s_plusT, s_times, s_eq, s_ne, s_eqOk_i, s_eqOk_b, s_eqOk_n, s_eqv_i, s_isN, s_len_at, s_lenT, s_len_ow, s_len_s, s_len_st, s_len_sl, s_len_sq, s_len_bt, s_len_bl, s_listOf_sq, s_listOf_st, s_listOf_bt, s_listOf_bl, s_tupOf_ow, s_abs, s_intOf, s_min2, s_max2, s_atL, s_atLT, s_stI3, s_mov_at, s_mov_sh, s_mov_br, s_mov_ow, s_kMv, s_isi', s_ret', s_exc', s_tup', s_kit_int_int, s_kit_int_bool, s_kit_int_str, s_kit_int_list, s_kit_int_tuple, s_kit_bool_int, s_kit_bool_bool, s_kit_bool_str, s_kit_bool_list, s_kit_bool_tuple, s_kit_str_int, s_kit_str_bool, s_kit_str_str, s_kit_str_list, s_kit_str_tuple, s_kit_list_int, s_kit_list_bool, s_kit_list_str, s_kit_list_list, s_kit_list_tuple, s_kit_tuple_int, s_kit_tuple_bool, s_kit_tuple_str, s_kit_tuple_list, s_kit_tuple_tuple, s_kit_NoneType_int, s_kit_NoneType_bool, s_kit_NoneType_str, s_kit_NoneType_list, s_kit_NoneType_tuple, s_of_rt, s_of_nx, s_of_ex, s_c0, s_c1, s_cn, s_var, s_varT_sh, s_varT_br, s_varT_lst, s_varT_ins, s_varT_dT, s_varT_brT, s_adr_un, s_adr_sh, s_adr_br, s_adr_lst, s_adr_ins, s_adr_dT, s_adr_brT, s_owClean_brP, s_argBo_brP, s_okAt_brP, s_pk_brP, s_goes_brP, s_pT_brP, s_brT_int, s_brT_bl, s_brT_str, s_brT_non, s_brT_lst, s_brT_tup, s_brT_ins, s_brT_exc, s_brT_sq, s_brP_int, s_brP_bl, s_brP_str, s_brP_non, s_brP_lst, s_brP_tup, s_brP_ins, s_brP_exc, s_brP_sq, s_eqv_s, s_eqv_b, s_eqOk_s, s_cpow_8, s_cpow_18, s_cpow_20, s_cpow_30, s_cpow_31, s_tyD_bad, s_isNon_bad, s_notBad_bad, s_flatD_bad, s_tyD_non, s_isNon_non, s_notBad_non, s_flatD_non, s_tyD_bl, s_isNon_bl, s_notBad_bl, s_flatD_bl, s_tyD_int, s_isNon_int, s_notBad_int, s_flatD_int, s_tyD_str, s_isNon_str, s_notBad_str, s_flatD_str, s_tyD_obj, s_isNon_obj, s_notBad_obj, s_flatD_obj, s_tyD_lst, s_isNon_lst, s_notBad_lst, s_flatD_lst, s_tyD_tup, s_isNon_tup, s_notBad_tup, s_flatD_tup, s_tyD_ins, s_isNon_ins, s_notBad_ins, s_flatD_ins, s_tyD_sq, s_isNon_sq, s_notBad_sq, s_flatD_sq, s_tyD_exc, s_isNon_exc, s_notBad_exc, s_flatD_exc, s_goes_sh, s_owClean_sh, s_rOk_sh, s_pT_sh, s_shD_sh, s_argT_as_sh, s_argT_bo_sh, s_argT_io_sh, s_goes_br, s_owClean_br, s_rOk_br, s_pT_br, s_shD_br, s_argT_as_br, s_argT_bo_br, s_argT_io_br, s_goes_ow, s_owClean_ow, s_rOk_ow, s_pT_ow, s_shD_ow, s_argT_as_ow, s_argT_bo_ow, s_argT_io_ow, s_goes_at, s_owClean_at, s_rOk_at, s_pT_at, s_shD_at, s_argT_as_at, s_argT_bo_at, s_argT_io_at, s_tP_un, s_cP_un, s_leaf_un, s_tD_un, s_tP_sh, s_cP_sh, s_leaf_sh, s_tD_sh, s_tP_br, s_cP_br, s_leaf_br, s_tD_br, s_tP_lst, s_cP_lst, s_leaf_lst, s_tD_lst, s_tP_ins, s_cP_ins, s_leaf_ins, s_tD_ins, s_tP_dT, s_cP_dT, s_leaf_dT, s_tD_dT, s_bos_brP, s_rOk_brP, s_is, s_kIs_sx, s_kIs_bx, s_val2, s_kV2_ss, s_val1, s_kV1_s, s_val0, s_xv_b, s_xv_s, s_ret, node, T.at, T.put, putN, shDs, callB, args, ios, bos, back, clean, cleans, fgt, ixN, atI, okS, okB, okO, okA, shs_iD, outs, outT, leaf_ish, len_ish, get_ish, List.getElem?_cons_zero, List.getElem?_cons_succ, List.getElem?_nil, List.cons_append, List.nil_append, List.append_nil, List.length_cons, List.length_nil, Nat.sub_self, List.replicate, Option.bind_some, Option.map_some, Option.bind_none, Option.map_none, Option.getD_some, List.set_cons_zero, List.set_cons_succ, if_true, if_false, Bool.false_eq_true, true_and, and_true, List.map_cons, List.map_nil, forall_const, reduceCtorEq, Bool.not_true, Bool.not_false, List.all_cons, List.all_nil, Bool.and_true, Bool.true_and, Bool.and_self, and_self, Int.cast_ofNat_Int, Nat.reduceAdd, Nat.reduceLT, Nat.reduceLeDiff, Int.reduceLE, Int.reduceLT, Int.reduceAdd, Int.reduceMul, Int.reducePow, Int.reduceNeg, Int.reduceToNat, Int.reduceEq, Nat.reduceEqDiff, decide_true, decide_false, List.contains_nil, List.contains_cons, Bool.or_false, Bool.false_or, Nat.reduceBEq, beq_self_eq_true, Bool.not_eq_true, Bool.or_self, clean_pool, adr_pool, item_pool, var_pool])
theorem tStrs_map : ∀ ys : List Str, tStrs (ys.map fun y => T.sh (.str y)) = some ys
  | [] => rfl
  | y :: ys => by
    simp only [List.map_cons, tStrs, tStr, tStrs_map ys]
    rfl
theorem strOk_app {x y : Str} (hx : PyData.strOk x = true) (hy : PyData.strOk y = true) : PyData.strOk (x ++ y) = true := by
  show ((x.cps ++ y.cps).all (· < 0x110000)) = true
  rw [Array.all_append]
  unfold PyData.strOk at hx hy
  rw [hx, hy]; rfl
theorem strOk_join (a : Str) (ha : PyData.strOk a = true) {ys : List Str} (hy : ∀ y ∈ ys, PyData.strOk y = true) : PyData.strOk (Txt.join a ys) = true := by
  show PyData.strOk (Builtin.Str.glued a ys) = true
  rw [StrLaws.glued_eq_join]
  induction ys with
  | nil => simp [Str.join, Str.empty, PyData.strOk]
  | cons y ys ih =>
    cases ys with
    | nil => exact hy y List.mem_cons_self
    | cons z zs =>
      show PyData.strOk (y ++ a ++ Str.join a (z :: zs)) = true
      exact strOk_app (strOk_app (hy y List.mem_cons_self) ha) (ih fun u hu => hy u (List.mem_cons_of_mem _ hu))
def C_integer : Con := fun ts Kr _ => ∃ a w, ts = [poolT a w] ∧ w.ok ∧ ∀ r w', w'.ok → -(10 ^ 31) ≤ r → r ≤ 10 ^ 31 → Kr (.sh (.int r)) [poolT a w']
theorem c_integer {a : Addr} {w : PoolR} {Kr : P → List T → Prop} {Kx : Ev → List T → Prop} (h : w.ok) (k : ∀ r w', w'.ok → -(10 ^ 31) ≤ r → r ≤ 10 ^ 31 → Kr (.sh (.int r)) [poolT a w']) : C_integer [poolT a w] Kr Kx := ⟨a, w, rfl, h, k⟩
theorem hw_integer (ts : List T) (Kr : P → List T → Prop) (Kx : Ev → List T → Prop) (hl : ts.length = 1) (h : C_integer ts Kr Kx) : W_law_integer C_take C_great (ts ++ List.replicate (1 - 1) .un) (kOf ts Kr Kx) := by
  obtain ⟨a, w, rfl, hw, h⟩ := h
  unfold W_law_integer
  trivial
  intro b
  refine c_take hw (by omega) (by omega) fun r w1 hw1 r0 r1 => ?_
  trivial
  have hr : r = 0 ∨ r = 1 := by omega
  rcases hr with rfl | rfl
  · trivial
    refine c_great hw1 (by omega) (by omega) fun r w2 hw2 r0 r1 => ?_
    trivial
    exact ⟨mulC_l (by omega) (by omega), h _ _ hw2 (by omega) (by omega)⟩
  · trivial
    refine c_great hw1 (by omega) (by omega) fun r w2 hw2 r0 r1 => ?_
    trivial
    exact ⟨mulC_l (by omega) (by omega), h _ _ hw2 (by omega) (by omega)⟩
def C_text : Con := fun ts Kr _ => ∃ a w, ts = [poolT a w] ∧ w.ok ∧ ∀ x w', w'.ok → PyData.strOk x = true → Kr (.sh (.str x)) [poolT a w']
theorem c_text {a : Addr} {w : PoolR} {Kr : P → List T → Prop} {Kx : Ev → List T → Prop} (h : w.ok) (k : ∀ x w', w'.ok → PyData.strOk x = true → Kr (.sh (.str x)) [poolT a w']) : C_text [poolT a w] Kr Kx := ⟨a, w, rfl, h, k⟩
theorem hw_text (ts : List T) (Kr : P → List T → Prop) (Kx : Ev → List T → Prop) (hl : ts.length = 1) (h : C_text ts Kr Kx) : W_law_text C_take (ts ++ List.replicate (3 - 1) .un) (kOf ts Kr Kx) := by
  obtain ⟨a, w, rfl, hw, h⟩ := h
  unfold W_law_text
  trivial
  refine ⟨trivial, ?_⟩
  have e1 : (Str.ofString "abcdefghijklmnopqrstuvwxyz ABCXYZ0189_-.,:;()#").length = 46 := by decide +kernel
  have e2 : PyData.strOk (Str.ofString "abcdefghijklmnopqrstuvwxyz ABCXYZ0189_-.,:;()#") = true := by decide +kernel
  generalize Str.ofString "abcdefghijklmnopqrstuvwxyz ABCXYZ0189_-.,:;()#" = sg at e1 e2 ⊢
  refine c_take hw (by omega) (by omega) fun r w1 hw1 r0 r1 => ?_
  trivial
  refine ⟨by omega, by omega, ?_⟩
  refine lc_rng (fun i acc S => ∃ (ys : List Str) (w2 : PoolR), acc = ys.map (fun y => T.sh (.str y)) ∧ ys.length = i ∧ (∀ y ∈ ys, y.length = 1 ∧ PyData.strOk y = true) ∧ w2.ok ∧ S = [poolT a w2, .sh (.str sg), .un]) ⟨[], w1, rfl, rfl, fun y hy => by simp at hy, hw1, rfl⟩ ?_ ?_
  · rintro i J acc S hi hJ ⟨ys, w2, rfl, hl, hys, hw2, rfl⟩
    trivial
    refine ⟨by omega, ?_⟩
    rw [e1]
    refine c_take hw2 (by omega) (by omega) fun r' w3 hw3 r0' r1' => ?_
    trivial
    have hx : r'.toNat < sg.cps.toList.length := by
      have : sg.cps.toList.length = 46 := by rw [← e1]; simp [Str.length]
      omega
    have ax := SL.atI_nat (List.getElem?_eq_getElem hx)
    rw [Int.toNat_of_nonneg r0'] at ax
    unfold atI ixN at ax
    rw [ax]
    trivial
    refine ⟨by omega, by simp; omega, hJ _ _ ⟨ys ++ [⟨#[sg.cps.toList[r'.toNat]]⟩], w3, by simp only [List.map_append, List.map_cons, List.map_nil], by simp [hl], fun y hy => ?_, hw3, rfl⟩⟩
    rcases List.mem_append.mp hy with hy | hy
    · exact hys y hy
    · simp only [List.mem_singleton] at hy
      subst hy
      refine ⟨rfl, ?_⟩
      unfold PyData.strOk at e2 ⊢
      simp only [Array.all_eq_true, decide_eq_true_eq] at e2 ⊢
      intro j hj
      have hj0 : j = 0 := by simpa using hj
      subst hj0
      have := e2 r'.toNat (by simpa using hx)
      simpa using this
  · rintro acc S b ⟨ys, w2, rfl, hl, hys, hw2, rfl⟩
    trivial
    unfold gJoin
    simp only [pk, kids, optK, tStrs_map]
    have hsum : (ys.map (·.length)).sum ≤ ys.length := by
      clear hl
      induction ys with
      | nil => simp
      | cons y ys ih =>
        have h1 := (hys y List.mem_cons_self).1
        have h2 := ih fun z hz => hys z (List.mem_cons_of_mem _ hz)
        simp only [List.map_cons, List.sum_cons, List.length_cons]
        omega
    have e0 : (Str.ofString "").length = 0 := by decide +kernel
    refine ⟨by rw [e0]; omega, ?_⟩
    trivial
    refine h _ _ hw2 (strOk_join _ (by decide +kernel) fun y hy => (hys y hy).2)
def C_drawn : Con := fun ts Kr _ => ∃ a w, ts = [poolT a w] ∧ w.ok ∧ ∀ b (i : Int) (x y : Str) (js : List Int) w', w'.ok → PyData.strOk x = true → PyData.strOk y = true → js.length < 5 → Kr (.ow (.lst b [.sh (.int i), .sh (.str x), .sh (.tup (.str y :: js.map D.int))])) [poolT a w']
theorem c_drawn {a : Addr} {w : PoolR} {Kr : P → List T → Prop} {Kx : Ev → List T → Prop} (h : w.ok) (k : ∀ b (i : Int) (x y : Str) (js : List Int) w', w'.ok → PyData.strOk x = true → PyData.strOk y = true → js.length < 5 → Kr (.ow (.lst b [.sh (.int i), .sh (.str x), .sh (.tup (.str y :: js.map D.int))])) [poolT a w']) : C_drawn [poolT a w] Kr Kx := ⟨a, w, rfl, h, k⟩
theorem tDs_ints : ∀ js : List Int, tDs (js.map fun j => T.sh (.int j)) = some (js.map D.int)
  | [] => rfl
  | y :: ys => by
    simp only [List.map_cons, tDs, tD, tDs_ints ys]
    rfl
theorem hw_drawn (ts : List T) (Kr : P → List T → Prop) (Kx : Ev → List T → Prop) (hl : ts.length = 1) (h : C_drawn ts Kr Kx) : W_law_drawn C_integer C_text C_take (ts ++ List.replicate (5 - 1) .un) (kOf ts Kr Kx) := by
  obtain ⟨a, w, rfl, hw, h⟩ := h
  unfold W_law_drawn
  trivial
  refine c_integer hw fun i w1 hw1 _ _ => ?_
  trivial
  refine c_text hw1 fun x w2 hw2 hx => ?_
  trivial
  refine c_text hw2 fun y w3 hw3 hy => ?_
  trivial
  refine c_take hw3 (by omega) (by omega) fun r w4 hw4 r0 r1 => ?_
  trivial
  refine ⟨by omega, by omega, ?_⟩
  refine lc_rng (fun k acc S => ∃ (js : List Int) (w5 : PoolR), acc = js.map (fun j => T.sh (.int j)) ∧ js.length = k ∧ w5.ok ∧ S = [poolT a w5, .sh (.int i), .sh (.str x), .un, .un]) ⟨[], w4, rfl, rfl, hw4, rfl⟩ ?_ ?_
  · rintro k J acc S hk hJ ⟨js, w5, rfl, hl, hw5, rfl⟩
    trivial
    refine c_integer hw5 fun j w6 hw6 _ _ => ?_
    trivial
    exact ⟨by first | omega | (simp; omega), hJ _ _ ⟨js ++ [j], w6, by simp only [List.map_append, List.map_cons, List.map_nil], by simp [hl], hw6, rfl⟩⟩
  · rintro acc S b ⟨js, w5, rfl, hl, hw5, rfl⟩
    trivial
    simp only [tDs_ints]
    trivial
    refine ⟨by first | omega | (simp; omega), fun c => ?_⟩
    exact h c i x y js w5 hw5 hx hy (by omega)
end K97

set_option Elab.async false
set_option linter.all false
set_option maxRecDepth 100000
set_option maxHeartbeats 4000000
namespace K97
open PySem PySem.Spec PyProof.Rows L2 SLH SL
local macro_rules | `(tactic| trivial) => `(tactic| simp only [s_1, s_k1, s_2, s_k2, s_k2', s_cb, s_kA, s_nil, s_cons, s_kC, s_kC', s_c, s_move, s_kMov, s_share, s_kShr, s_lst, s_kLst, s_tup, s_isi, s_tb, s_kTB_sh, s_kTB_br, s_yes, s_and, s_kAnd_t, s_kAnd_f, s_or, s_kOr_t, s_kOr_f, s_not, s_kNot, s_bv, s_kBV, s_andV, s_kAndV_t, s_kAndV_f, s_orV, s_kOrV_t, s_kOrV_f, s_notV, s_kNotV, s_ife, s_kIfE_t, s_kIfE_f, s_ch, s_kCh, s_kCh3, s_call, s_kCall, s_cal, s_bm, s_kBM, s_kBM', s_seq, s_seq_nx, s_seq_rt, s_seq_bk, s_seq_ct, s_seq_ex, s_skip, s_brk, s_cnt, s_retN, s_asg, s_kAsg, s_drop, s_kDrop, s_if, s_kIf_t, s_kIf_f, s_sto_sh, s_sto_br, s_sto_ow, s_stI, s_kStI1, s_kStI2, s_augN, s_kAug1, s_kAug2, s_for, s_lup_nx, s_lup_ct, s_lup_bk, s_lup_rt, s_lup_ex, s_kItm, s_itm, s_range1, s_kR1, s_range2, s_kR2, s_kWh_t, s_kWh_f, s_kLcF, s_kLcT_t, s_kLcT_f, s_kLcG, s_kLcD, s_lc, s_opt, s_optN, s_kAt, s_kSh, s_kBl, s_pk_sh, s_pk_br, s_pk_ow, s_pk_at, s_pkT, s_toD_sh, s_toD_br, s_toD_lst, s_toD_ins, s_item_at, s_itemT, s_item_st, s_item_sl, s_item_ss, s_item_bt, s_item_bl, s_item_ow, s_i0, s_i, s_neg, s_plus, s_plus_s, s_plus_t, s_plus_oo, s_plus_ao, s_plusT, s_times, s_eq, s_ne, s_eqOk_i, s_eqOk_b, s_eqOk_n, s_eqv_i, s_isN, s_len_at, s_lenT, s_len_ow, s_len_s, s_len_st, s_len_sl, s_len_sq, s_len_bt, s_len_bl, s_listOf_sq, s_listOf_st, s_listOf_bt, s_listOf_bl, s_tupOf_ow, s_abs, s_intOf, s_min2, s_max2, s_atL, s_atLT, s_stI3, s_mov_at, s_mov_sh, s_mov_br, s_mov_ow, s_kMv, s_isi', s_ret', s_exc', s_tup', s_kit_int_int, s_kit_int_bool, s_kit_int_str, s_kit_int_list, s_kit_int_tuple, s_kit_bool_int, s_kit_bool_bool, s_kit_bool_str, s_kit_bool_list, s_kit_bool_tuple, s_kit_str_int, s_kit_str_bool, s_kit_str_str, s_kit_str_list, s_kit_str_tuple, s_kit_list_int, s_kit_list_bool, s_kit_list_str, s_kit_list_list, s_kit_list_tuple, s_kit_tuple_int, s_kit_tuple_bool, s_kit_tuple_str, s_kit_tuple_list, s_kit_tuple_tuple, s_kit_NoneType_int, s_kit_NoneType_bool, s_kit_NoneType_str, s_kit_NoneType_list, s_kit_NoneType_tuple, s_of_rt, s_of_nx, s_of_ex, s_c0, s_c1, s_cn, s_var, s_varT_sh, s_varT_br, s_varT_lst, s_varT_ins, s_varT_dT, s_varT_brT, s_adr_un, s_adr_sh, s_adr_br, s_adr_lst, s_adr_ins, s_adr_dT, s_adr_brT, s_owClean_brP, s_argBo_brP, s_okAt_brP, s_pk_brP, s_goes_brP, s_pT_brP, s_brT_int, s_brT_bl, s_brT_str, s_brT_non, s_brT_lst, s_brT_tup, s_brT_ins, s_brT_exc, s_brT_sq, s_brP_int, s_brP_bl, s_brP_str, s_brP_non, s_brP_lst, s_brP_tup, s_brP_ins, s_brP_exc, s_brP_sq, s_eqv_s, s_eqv_b, s_eqOk_s, s_cpow_8, s_cpow_18, s_cpow_20, s_cpow_30, s_cpow_31, s_tyD_bad, s_isNon_bad, s_notBad_bad, s_flatD_bad, s_tyD_non, s_isNon_non, s_notBad_non, s_flatD_non, s_tyD_bl, s_isNon_bl, s_notBad_bl, s_flatD_bl, s_tyD_int, s_isNon_int, s_notBad_int, s_flatD_int, s_tyD_str, s_isNon_str, s_notBad_str, s_flatD_str, s_tyD_obj, s_isNon_obj, s_notBad_obj, s_flatD_obj, s_tyD_lst, s_isNon_lst, s_notBad_lst, s_flatD_lst, s_tyD_tup, s_isNon_tup, s_notBad_tup, s_flatD_tup, s_tyD_ins, s_isNon_ins, s_notBad_ins, s_flatD_ins, s_tyD_sq, s_isNon_sq, s_notBad_sq, s_flatD_sq, s_tyD_exc, s_isNon_exc, s_notBad_exc, s_flatD_exc, s_goes_sh, s_owClean_sh, s_rOk_sh, s_pT_sh, s_shD_sh, s_argT_as_sh, s_argT_bo_sh, s_argT_io_sh, s_goes_br, s_owClean_br, s_rOk_br, s_pT_br, s_shD_br, s_argT_as_br, s_argT_bo_br, s_argT_io_br, s_goes_ow, s_owClean_ow, s_rOk_ow, s_pT_ow, s_shD_ow, s_argT_as_ow, s_argT_bo_ow, s_argT_io_ow, s_goes_at, s_owClean_at, s_rOk_at, s_pT_at, s_shD_at, s_argT_as_at, s_argT_bo_at, s_argT_io_at, s_tP_un, s_cP_un, s_leaf_un, s_tD_un, s_tP_sh, s_cP_sh, s_leaf_sh, s_tD_sh, s_tP_br, s_cP_br, s_leaf_br, s_tD_br, s_tP_lst, s_cP_lst, s_leaf_lst, s_tD_lst, s_tP_ins, s_cP_ins, s_leaf_ins, s_tD_ins, s_tP_dT, s_cP_dT, s_leaf_dT, s_tD_dT, s_bos_brP, s_rOk_brP, s_is, s_kIs_sx, s_kIs_bx, s_val2, s_kV2_ss, s_val1, s_kV1_s, s_val0, s_xv_b, s_xv_s, s_ret, node, T.at, T.put, putN, shDs, callB, args, ios, bos, back, clean, cleans, fgt, ixN, atI, okS, okB, okO, okA, shs_iD, outs, outT, leaf_ish, len_ish, get_ish, List.getElem?_cons_zero, List.getElem?_cons_succ, List.getElem?_nil, List.cons_append, List.nil_append, List.append_nil, List.length_cons, List.length_nil, Nat.sub_self, List.replicate, Option.bind_some, Option.map_some, Option.bind_none, Option.map_none, Option.getD_some, List.set_cons_zero, List.set_cons_succ, if_true, if_false, Bool.false_eq_true, true_and, and_true, List.map_cons, List.map_nil, forall_const, reduceCtorEq, Bool.not_true, Bool.not_false, List.all_cons, List.all_nil, Bool.and_true, Bool.true_and, Bool.and_self, and_self, Int.cast_ofNat_Int, Nat.reduceAdd, Nat.reduceLT, Nat.reduceLeDiff, Int.reduceLE, Int.reduceLT, Int.reduceAdd, Int.reduceMul, Int.reducePow, Int.reduceNeg, Int.reduceToNat, Int.reduceEq, Nat.reduceEqDiff, Int.zero_add, decide_true, decide_false, List.contains_nil, List.contains_cons, Bool.or_false, Bool.false_or, Nat.reduceBEq, beq_self_eq_true, Bool.not_eq_true, Bool.or_self, clean_pool, adr_pool, item_pool, var_pool])
def nm (k : Nat) : Str := nms.getD k ""
def excV (K : PySem.W.Frag) (k : Nat) (i : Int) (x : Str) (r : D) : D := if k < 15 then .exc (He.ga K (nm k)) ["code", "at"] [.str x, .int i] else if k < 17 then .exc (He.ga K (nm k)) ["reason"] [r] else .exc (He.ga K (nm k)) [] []
def C_made (K : PySem.W.Frag) : Con := fun ts Kr _ => ∃ (k : Nat) (i : Int) (x : Str) (r : D), k < 18 ∧ ts = [.sh (.int k), .sh (.int i), .sh (.str x), .sh r] ∧ Kr (.sh (excV K k i x r)) ts
theorem hw_made {K : PySem.W.Frag} (ts : List T) (Kr : P → List T → Prop) (Kx : Ev → List T → Prop) (hl : ts.length = 4) (h : C_made K ts Kr Kx) : W_law_made K (ts ++ List.replicate (4 - 4) .un) (kOf ts Kr Kx) := by
  obtain ⟨k, i, x, r, hk, rfl, h⟩ := h
  unfold W_law_made
  have hk' : k = 0 ∨ k = 1 ∨ k = 2 ∨ k = 3 ∨ k = 4 ∨ k = 5 ∨ k = 6 ∨ k = 7 ∨ k = 8 ∨ k = 9 ∨ k = 10 ∨ k = 11 ∨ k = 12 ∨ k = 13 ∨ k = 14 ∨ k = 15 ∨ k = 16 ∨ k = 17 := by omega
  rcases hk' with rfl | rfl | rfl | rfl | rfl | rfl | rfl | rfl | rfl | rfl | rfl | rfl | rfl | rfl | rfl | rfl | rfl | rfl
  all_goals (trivial; exact h)

structure Kin (K : PySem.W.Frag) (k : Nat) (C : Addr) : Prop where
  me : C ∈ excCs K
  lt : k < 18
  ev : PySem.W.kitOne K (.ref C) (.ref (He.ga K "EverymorningError")) = some true
  ve : PySem.W.kitOne K (.ref C) (.type "ValueError") = some true
  kin : ∀ b, b ∈ nms → PySem.W.kitOne K (.ref C) (.ref (He.ga K b)) = some (nm k == b)
def C_kin (K : PySem.W.Frag) : Con := fun ts Kr _ => ∃ (k : Nat) (C : Addr) (ns : List Str) (xs : List D), ts = [.br (.exc C ns xs)] ∧ Kin K k C ∧ ∀ a, Kr (.ow (.lst a (nms.map fun b => .sh (.bl (nm k == b))))) ts
theorem hw_kin {K : PySem.W.Frag} (ts : List T) (Kr : P → List T → Prop) (Kx : Ev → List T → Prop) (hl : ts.length = 1) (h : C_kin K ts Kr Kx) : W_law_kin K (ts ++ List.replicate (2 - 1) .un) (kOf ts Kr Kx) := by
  obtain ⟨k, C, ns, xs, rfl, hk, h⟩ := h
  unfold W_law_kin
  have hm : (C ∈ excCs K) = True := eq_true hk.me
  have hOutOfRange := hk.kin "OutOfRange" (by simp [nms])
  have hBadDepot := hk.kin "BadDepot" (by simp [nms])
  have hBadBook := hk.kin "BadBook" (by simp [nms])
  have hBadLives := hk.kin "BadLives" (by simp [nms])
  have hBadPasses := hk.kin "BadPasses" (by simp [nms])
  have hBadCrews := hk.kin "BadCrews" (by simp [nms])
  have hBadWish := hk.kin "BadWish" (by simp [nms])
  have hBadBounds := hk.kin "BadBounds" (by simp [nms])
  have hBadNotes := hk.kin "BadNotes" (by simp [nms])
  have hBadLists := hk.kin "BadLists" (by simp [nms])
  have hBadLine := hk.kin "BadLine" (by simp [nms])
  have hBadGroup := hk.kin "BadGroup" (by simp [nms])
  have hBadCompany := hk.kin "BadCompany" (by simp [nms])
  have hBadTerms := hk.kin "BadTerms" (by simp [nms])
  have hBadLottery := hk.kin "BadLottery" (by simp [nms])
  have hNoBook := hk.kin "NoBook" (by simp [nms])
  have hGoalLost := hk.kin "GoalLost" (by simp [nms])
  have hNothingLeft := hk.kin "NothingLeft" (by simp [nms])
  trivial
  simp only [hm, hOutOfRange]
  trivial
  simp only [hm, hBadDepot]
  trivial
  simp only [hm, hBadBook]
  trivial
  simp only [hm, hBadLives]
  trivial
  try intro a3
  try trivial
  simp only [hm, hBadPasses]
  trivial
  simp only [hm, hBadCrews]
  trivial
  simp only [hm, hBadWish]
  trivial
  simp only [hm, hBadBounds]
  trivial
  try intro a7
  try trivial
  simp only [hm, hBadNotes]
  trivial
  simp only [hm, hBadLists]
  trivial
  simp only [hm, hBadLine]
  trivial
  simp only [hm, hBadGroup]
  trivial
  simp only [hm, hBadCompany]
  trivial
  simp only [hm, hBadTerms]
  trivial
  simp only [hm, hBadLottery]
  trivial
  simp only [hm, hNoBook]
  trivial
  simp only [hm, hGoalLost]
  trivial
  simp only [hm, hNothingLeft]
  trivial
  exact h
theorem nms_ix (k : Nat) (h : k < 18) : (nms.map fun b => nm k == b) = (List.range 18).map fun i => decide (i = k) := by
  have hk' : k = 0 ∨ k = 1 ∨ k = 2 ∨ k = 3 ∨ k = 4 ∨ k = 5 ∨ k = 6 ∨ k = 7 ∨ k = 8 ∨ k = 9 ∨ k = 10 ∨ k = 11 ∨ k = 12 ∨ k = 13 ∨ k = 14 ∨ k = 15 ∨ k = 16 ∨ k = 17 := by omega
  rcases hk' with rfl | rfl | rfl | rfl | rfl | rfl | rfl | rfl | rfl | rfl | rfl | rfl | rfl | rfl | rfl | rfl | rfl | rfl
  all_goals decide +kernel
theorem cleans_sh {α : Type} (f : α → D) : ∀ l : List α, cleans (l.map fun b => T.sh (f b)) = true
  | [] => by simp [cleans]
  | x :: l => by simp [cleans, clean, cleans_sh f l]
theorem toD_bls {α : Type} (f : α → Bool) (l : List α) : (l.map fun b => T.sh (.bl (f b))).map toD = (l.map f).map D.bl := by
  simp [List.map_map, Function.comp, toD]
def C_holds (K : PySem.W.Frag) : Con := fun ts Kr _ => ∃ (k : Nat) (i : Int) (x : Str) (r : D), Kin K k (He.ga K (nm k)) ∧ (k < 15 → He.ga K (nm k) ∈ Ca K) ∧ (15 ≤ k → k < 17 → He.ga K (nm k) ∈ Cr K) ∧ PyData.strOk x = true ∧ lawD 1 r ∧ ts = [.sh (.int k), brT (excV K k i x r), brT (.lst [.int i, .str x, r])] ∧ Kr (.sh (.bl true)) ts
theorem hw_holds {K : PySem.W.Frag} (ts : List T) (Kr : P → List T → Prop) (Kx : Ev → List T → Prop) (hl : ts.length = 3) (h : C_holds K ts Kr Kx) : W_law_holds K (C_kin K) (C_same 1) (ts ++ List.replicate (4 - 3) .un) (kOf ts Kr Kx) := by
  obtain ⟨k, i, x, r, hk, ha, hr, hx, hlr, rfl, h⟩ := h
  have hk18 := hk.lt
  have hm : (He.ga K (nm k) ∈ excCs K) = True := eq_true hk.me
  have hev := hk.ev
  have hve := hk.ve
  obtain ⟨ns, xs, e⟩ : ∃ ns xs, excV K k i x r = .exc (He.ga K (nm k)) ns xs := by
    unfold excV; split
    · exact ⟨_, _, rfl⟩
    · split <;> exact ⟨_, _, rfl⟩
  rw [e] at h ⊢
  unfold W_law_holds
  trivial
  simp only [hm, hev, hve]
  trivial
  simp only [hm, hev, hve]
  trivial
  refine ⟨k, _, ns, xs, rfl, hk, fun a => ?_⟩
  trivial
  refine ⟨cleans_sh _ _, ?_⟩
  refine lc_rng (fun n acc S => acc = (List.range n).map (fun j => T.sh (.bl (decide (j = k)))) ∧ S = [T.sh (D.int k), T.br (D.exc (He.ga K (nm k)) ns xs), T.br (D.lst [D.int i, D.str x, r]), T.un]) ⟨rfl, rfl⟩ ?_ ?_
  · rintro n J acc S hn hJ ⟨rfl, rfl⟩
    trivial
    refine ⟨by simp; omega, hJ _ _ ⟨?_, rfl⟩⟩
    rw [List.range_succ, List.map_append]
    simp only [List.map_cons, List.map_nil, Int.ofNat_inj]
  · rintro acc S b ⟨rfl, rfl⟩
    trivial
    rw [toD_bls, toD_bls, nms_ix k hk18]
    refine ⟨eqOk_bls _, eqOk_bls _, ?_⟩
    rw [show (18 : Nat) = Int.toNat 18 from rfl, eqv_bls]
    trivial
    by_cases h15 : (k : Int) < 15
    · rw [decide_eq_true h15]
      trivial
      have e2 : D.exc (He.ga K (nm k)) ns xs = .exc (He.ga K (nm k)) ["code", "at"] [.str x, .int i] := by
        rw [← e]; unfold excV; rw [if_pos (by omega)]
      cases e2
      have hca := eq_true (ha (by omega))
      simp only [hca]
      trivial
      rw [show fpos (Str.ofString "at") [Str.ofString "code", Str.ofString "at"] = some 1 by decide +kernel]
      trivial
      refine c_same (n := 1) (g := .int i) (d := .int i) trivial trivial (fun _ => ?_) fun q => absurd rfl q
      trivial
      simp only [hca]
      rw [show fpos (Str.ofString "code") [Str.ofString "code", Str.ofString "at"] = some 0 by decide +kernel]
      trivial
      refine c_same (n := 1) (g := .str x) (d := .str x) hx hx (fun _ => ?_) fun q => absurd rfl q
      trivial
      exact h
    · rw [decide_eq_false h15]
      trivial
      by_cases h17 : k = 17
      · subst h17
        trivial
        exact h
      · rw [decide_eq_false (by omega)]
        trivial
        have e2 : D.exc (He.ga K (nm k)) ns xs = .exc (He.ga K (nm k)) ["reason"] [r] := by
          rw [← e]; unfold excV; rw [if_neg (by omega), if_pos (by omega)]
        cases e2
        have hca := eq_true (hr (by omega) (by omega))
        simp only [hca]
        trivial
        rw [show fpos (Str.ofString "reason") [Str.ofString "reason"] = some 0 by decide +kernel]
        trivial
        refine c_same hlr hlr (fun _ => ?_) fun q => absurd rfl q
        trivial
        exact h
def C_law (K : PySem.W.Frag) : Con := fun ts Kr _ => ∃ ns, ts = [.sh (.sq (iD ns))] ∧ ns.length ≤ 63 ∧ Kr (.sh (.bl true)) ts
structure Facts (K : PySem.W.Frag) : Prop where
  kin : ∀ k, k < 18 → Kin K k (He.ga K (nm k))
  ca : ∀ k, k < 15 → He.ga K (nm k) ∈ Ca K
  cr : ∀ k, 15 ≤ k → k < 17 → He.ga K (nm k) ∈ Cr K
theorem hw_law {K : PySem.W.Frag} (F : Facts K) (ts : List T) (Kr : P → List T → Prop) (Kx : Ev → List T → Prop) (hl : ts.length = 1) (h : C_law K ts Kr Kx) : Wlaw C_pool C_drawn (C_made K) (C_holds K) (ts ++ List.replicate (6 - 1) .un) (kOf ts Kr Kx) := by
  obtain ⟨ns, rfl, hns, h⟩ := h
  unfold Wlaw
  trivial
  refine ⟨ns, rfl, hns, fun a w hw => ?_⟩
  trivial
  refine c_drawn hw fun b i x y js w1 hw1 hx hy hjs => ?_
  trivial
  refine c_drawn hw1 fun b' i' x' y' js' w2 hw2 hx' hy' hjs' => ?_
  trivial
  have l1 : lawD 1 (.tup (.str y :: js.map D.int)) := ⟨by simp; omega, fun d hd => by
    rcases List.mem_cons.mp hd with rfl | hd
    · exact hy
    · obtain ⟨j, _, rfl⟩ := List.mem_map.mp hd; exact True.intro⟩
  have l2 : lawD 1 (.tup (.str y' :: js'.map D.int)) := ⟨by simp; omega, fun d hd => by
    rcases List.mem_cons.mp hd with rfl | hd
    · exact hy'
    · obtain ⟨j, _, rfl⟩ := List.mem_map.mp hd; exact True.intro⟩
  generalize D.tup (.str y :: js.map D.int) = r at l1 ⊢
  generalize D.tup (.str y' :: js'.map D.int) = r' at l2 ⊢
  refine lc_rng (fun n acc S => acc = (List.range n).map (fun j => T.sh (excV K j i x r)) ∧ S = [.sh (.sq (iD ns)), poolT a w2, .lst b [.sh (.int i), .sh (.str x), .sh r], .lst b' [.sh (.int i'), .sh (.str x'), .sh r'], .un, .un]) ⟨rfl, rfl⟩ ?_ ?_
  · rintro n J acc S hn hJ ⟨rfl, rfl⟩
    trivial
    refine ⟨n, i, x, r, hn, rfl, ?_⟩
    trivial
    refine ⟨by simp; omega, hJ _ _ ⟨?_, rfl⟩⟩
    rw [List.range_succ, List.map_append]
    rfl
  · rintro acc S c ⟨rfl, rfl⟩
    trivial
    refine lup_rng (fun n S => ∃ t, S = [.sh (.sq (iD ns)), poolT a w2, .lst b [.sh (.int i), .sh (.str x), .sh r], .lst b' [.sh (.int i'), .sh (.str x'), .sh r'], .lst c ((List.range 18).map (fun j => T.sh (excV K j i x r))), t]) ⟨_, rfl⟩ ?_ ?_
    · rintro n J S hn hJ ⟨t, rfl⟩
      trivial
      rw [ixN_in (by omega) (by simp; omega), Option.bind_some, Int.toNat_natCast, List.getElem?_map, List.getElem?_range hn]
      trivial
      refine ⟨n, i, x, r, F.kin n hn, F.ca n, F.cr n, hx, l1, rfl, ?_⟩
      trivial
      refine ⟨n, i', x', r', hn, rfl, ?_⟩
      trivial
      trace_state
      refine ⟨n, i', x', r', F.kin n hn, F.ca n, F.cr n, hx', l2, rfl, ?_⟩
      trivial
      exact hJ _ ⟨_, rfl⟩
    · rintro S ⟨t, rfl⟩
      trivial
      refine lup_rng (fun n S => ∃ t, S = [.sh (.sq (iD ns)), poolT a w2, .lst b [.sh (.int i), .sh (.str x), .sh r], .lst b' [.sh (.int i'), .sh (.str x'), .sh r'], .lst c ((List.range 18).map (fun j => T.sh (excV K j i x r))), t]) ⟨_, rfl⟩ ?_ ?_
      · rintro n J S hn hJ ⟨t, rfl⟩
        trivial
        rw [ixN_in (by omega) (by simp; omega), Option.bind_some, Int.toNat_natCast, List.getElem?_map, List.getElem?_range hn]
        trivial
        refine ⟨n, i, x, r, F.kin n hn, F.ca n, F.cr n, hx, l1, rfl, ?_⟩
        trivial
        exact hJ _ ⟨_, rfl⟩
      · rintro S ⟨t, rfl⟩
        trivial
        exact h

end K97

set_option Elab.async false
set_option linter.all false
set_option maxRecDepth 100000
set_option maxHeartbeats 4000000
namespace K97
open PySem PySem.Spec PyProof.Rows L2 SLH SL
theorem fK {K : PySem.W.Frag} (c : SaysS fs fn fx K) : Facts K := by
  have hk := c.fact 78
  have he := c.fact 79
  have mem : ∀ k, k < 18 → nm k ∈ nms := fun k h => by
    have h2 : k < nms.length := h
    unfold nm
    rw [List.getD_eq_getElem?_getD, List.getElem?_eq_getElem h2]
    exact List.getElem_mem h2
  refine ⟨fun k h => ⟨?_, h, ?_, ?_, fun b hb => kin_ok hk (mem k h) hb⟩, fun k h => ?_, fun k h h' => ?_⟩
  · have hk' : k = 0 ∨ k = 1 ∨ k = 2 ∨ k = 3 ∨ k = 4 ∨ k = 5 ∨ k = 6 ∨ k = 7 ∨ k = 8 ∨ k = 9 ∨ k = 10 ∨ k = 11 ∨ k = 12 ∨ k = 13 ∨ k = 14 ∨ k = 15 ∨ k = 16 ∨ k = 17 := by omega
    rcases hk' with rfl | rfl | rfl | rfl | rfl | rfl | rfl | rfl | rfl | rfl | rfl | rfl | rfl | rfl | rfl | rfl | rfl | rfl
    all_goals simp [excCs, nm, nms]
  · exact eqB_ok (He.ba (List.all_eq_true.mp he _ (mem k h))).1
  · exact eqB_ok (He.ba (List.all_eq_true.mp he _ (mem k h))).2
  · have hk' : k = 0 ∨ k = 1 ∨ k = 2 ∨ k = 3 ∨ k = 4 ∨ k = 5 ∨ k = 6 ∨ k = 7 ∨ k = 8 ∨ k = 9 ∨ k = 10 ∨ k = 11 ∨ k = 12 ∨ k = 13 ∨ k = 14 := by omega
    rcases hk' with rfl | rfl | rfl | rfl | rfl | rfl | rfl | rfl | rfl | rfl | rfl | rfl | rfl | rfl | rfl
    all_goals simp [Ca, nm, nms]
  · have hk' : k = 15 ∨ k = 16 := by omega
    rcases hk' with rfl | rfl
    all_goals simp [Cr, nm, nms]
theorem hCsK {K : PySem.W.Frag} (c : SaysS fs fn fx K) : ∀ C ∈ excCs K, IsC K C ∧ XfC K C := fun C h => by
  have hi := c.fact 76
  have go : ∀ x, x ∈ nms → IsC K (He.ga K x) ∧ XfC K (He.ga K x) := fun x hx => isC_ok (List.all_eq_true.mp hi x hx)
  unfold excCs at h
  simp only [List.mem_cons, List.not_mem_nil, or_false] at h
  rcases h with rfl | rfl | rfl | rfl | rfl | rfl | rfl | rfl | rfl | rfl | rfl | rfl | rfl | rfl | rfl | rfl | rfl | rfl
  all_goals exact go _ (by simp [nms])
theorem hCaK {K : PySem.W.Frag} (c : SaysS fs fn fx K) : ∀ C ∈ Ca K, XfC K C ∧ (PySem.W.findIn K (.ref C) "at" = some none ∧ PySem.W.findIn K (.ref C) "code" = some none ∧ PySem.W.findIn K (.ref C) "reason" = some none) := fun C h => by
  have hi := c.fact 76
  have ha := c.fact 77
  have go : ∀ x, x ∈ nms → XfC K (He.ga K x) ∧ (PySem.W.findIn K (.ref (He.ga K x)) "at" = some none ∧ PySem.W.findIn K (.ref (He.ga K x)) "code" = some none ∧ PySem.W.findIn K (.ref (He.ga K x)) "reason" = some none) := fun x hx => by
    have t := He.ba (List.all_eq_true.mp ha x hx)
    have u := He.ba t.2
    exact ⟨(isC_ok (List.all_eq_true.mp hi x hx)).2, noAt_ok t.1, noAt_ok u.1, noAt_ok u.2⟩
  unfold Ca at h
  simp only [List.mem_cons, List.not_mem_nil, or_false] at h
  rcases h with rfl | rfl | rfl | rfl | rfl | rfl | rfl | rfl | rfl | rfl | rfl | rfl | rfl | rfl | rfl
  all_goals exact go _ (by simp [nms])
theorem hCrK {K : PySem.W.Frag} (c : SaysS fs fn fx K) : ∀ C ∈ Cr K, XfC K C ∧ (PySem.W.findIn K (.ref C) "at" = some none ∧ PySem.W.findIn K (.ref C) "code" = some none ∧ PySem.W.findIn K (.ref C) "reason" = some none) := fun C h => by
  have hi := c.fact 76
  have ha := c.fact 77
  have go : ∀ x, x ∈ nms → XfC K (He.ga K x) ∧ (PySem.W.findIn K (.ref (He.ga K x)) "at" = some none ∧ PySem.W.findIn K (.ref (He.ga K x)) "code" = some none ∧ PySem.W.findIn K (.ref (He.ga K x)) "reason" = some none) := fun x hx => by
    have t := He.ba (List.all_eq_true.mp ha x hx)
    have u := He.ba t.2
    exact ⟨(isC_ok (List.all_eq_true.mp hi x hx)).2, noAt_ok t.1, noAt_ok u.1, noAt_ok u.2⟩
  unfold Cr at h
  simp only [List.mem_cons, List.not_mem_nil, or_false] at h
  rcases h with rfl | rfl
  all_goals exact go _ (by simp [nms])
theorem F_law_number {K : PySem.W.Frag} (c : SaysS fs fn fx K) : ∃ fd, FunD K "_law_number" "_law_number" (defArgs s_law_number) (defBody s_law_number) (defScope s_law_number) [] [] (He.ga K "_law_number") fd ∧ Binds K fd ["got"] [] := by
  obtain ⟨fd, F⟩ := c.def_ 0 (d := d_law_number)
  exact ⟨fd, F, FunD.bindsN F fun _ _ _ _ _ _ us hl => match us, hl with | [_], _ => rfl⟩
theorem F_law_same {K : PySem.W.Frag} (c : SaysS fs fn fx K) : ∃ fd, FunD K "_law_same" "_law_same" (defArgs s_law_same) (defBody s_law_same) (defScope s_law_same) [] [] (He.ga K "_law_same") fd ∧ Binds K fd ["got", "due"] [] := by
  obtain ⟨fd, F⟩ := c.def_ 1 (d := d_law_same)
  exact ⟨fd, F, FunD.bindsN F fun _ _ _ _ _ _ us hl => match us, hl with | [_, _], _ => rfl⟩
theorem F_law_pool {K : PySem.W.Frag} (c : SaysS fs fn fx K) : ∃ fd, FunD K "_law_pool" "_law_pool" (defArgs s_law_pool) (defBody s_law_pool) (defScope s_law_pool) [] [] (He.ga K "_law_pool") fd ∧ Binds K fd ["script"] [] := by
  obtain ⟨fd, F⟩ := c.def_ 2 (d := d_law_pool)
  exact ⟨fd, F, FunD.bindsN F fun _ _ _ _ _ _ us hl => match us, hl with | [_], _ => rfl⟩
theorem F_law_take {K : PySem.W.Frag} (c : SaysS fs fn fx K) : ∃ fd, FunD K "_law_take" "_law_take" (defArgs s_law_take) (defBody s_law_take) (defScope s_law_take) [] [] (He.ga K "_law_take") fd ∧ Binds K fd ["pool", "limit"] [] := by
  obtain ⟨fd, F⟩ := c.def_ 3 (d := d_law_take)
  exact ⟨fd, F, FunD.bindsN F fun _ _ _ _ _ _ us hl => match us, hl with | [_, _], _ => rfl⟩
theorem F_law_great {K : PySem.W.Frag} (c : SaysS fs fn fx K) : ∃ fd, FunD K "_law_great" "_law_great" (defArgs s_law_great) (defBody s_law_great) (defScope s_law_great) [] [] (He.ga K "_law_great") fd ∧ Binds K fd ["pool", "most"] [] := by
  obtain ⟨fd, F⟩ := c.def_ 4 (d := d_law_great)
  exact ⟨fd, F, FunD.bindsN F fun _ _ _ _ _ _ us hl => match us, hl with | [_, _], _ => rfl⟩
theorem F_law_integer {K : PySem.W.Frag} (c : SaysS fs fn fx K) : ∃ fd, FunD K "_law_integer" "_law_integer" (defArgs s_law_integer) (defBody s_law_integer) (defScope s_law_integer) [] [] (He.ga K "_law_integer") fd ∧ Binds K fd ["pool"] [] := by
  obtain ⟨fd, F⟩ := c.def_ 5 (d := d_law_integer)
  exact ⟨fd, F, FunD.bindsN F fun _ _ _ _ _ _ us hl => match us, hl with | [_], _ => rfl⟩
theorem F_law_text {K : PySem.W.Frag} (c : SaysS fs fn fx K) : ∃ fd, FunD K "_law_text" "_law_text" (defArgs s_law_text) (defBody s_law_text) (defScope s_law_text) [] [] (He.ga K "_law_text") fd ∧ Binds K fd ["pool"] [] := by
  obtain ⟨fd, F⟩ := c.def_ 6 (d := d_law_text)
  exact ⟨fd, F, FunD.bindsN F fun _ _ _ _ _ _ us hl => match us, hl with | [_], _ => rfl⟩
theorem F_law_drawn {K : PySem.W.Frag} (c : SaysS fs fn fx K) : ∃ fd, FunD K "_law_drawn" "_law_drawn" (defArgs s_law_drawn) (defBody s_law_drawn) (defScope s_law_drawn) [] [] (He.ga K "_law_drawn") fd ∧ Binds K fd ["pool"] [] := by
  obtain ⟨fd, F⟩ := c.def_ 7 (d := d_law_drawn)
  exact ⟨fd, F, FunD.bindsN F fun _ _ _ _ _ _ us hl => match us, hl with | [_], _ => rfl⟩
theorem F_law_made {K : PySem.W.Frag} (c : SaysS fs fn fx K) : ∃ fd, FunD K "_law_made" "_law_made" (defArgs s_law_made) (defBody s_law_made) (defScope s_law_made) [] [] (He.ga K "_law_made") fd ∧ Binds K fd ["k", "at", "code", "reason"] [] := by
  obtain ⟨fd, F⟩ := c.def_ 8 (d := d_law_made)
  exact ⟨fd, F, FunD.bindsN F fun _ _ _ _ _ _ us hl => match us, hl with | [_, _, _, _], _ => rfl⟩
theorem F_law_kin {K : PySem.W.Frag} (c : SaysS fs fn fx K) : ∃ fd, FunD K "_law_kin" "_law_kin" (defArgs s_law_kin) (defBody s_law_kin) (defScope s_law_kin) [] [] (He.ga K "_law_kin") fd ∧ Binds K fd ["e"] [] := by
  obtain ⟨fd, F⟩ := c.def_ 9 (d := d_law_kin)
  exact ⟨fd, F, FunD.bindsN F fun _ _ _ _ _ _ us hl => match us, hl with | [_], _ => rfl⟩
theorem F_law_holds {K : PySem.W.Frag} (c : SaysS fs fn fx K) : ∃ fd, FunD K "_law_holds" "_law_holds" (defArgs s_law_holds) (defBody s_law_holds) (defScope s_law_holds) [] [] (He.ga K "_law_holds") fd ∧ Binds K fd ["k", "e", "drawn"] [] := by
  obtain ⟨fd, F⟩ := c.def_ 10 (d := d_law_holds)
  exact ⟨fd, F, FunD.bindsN F fun _ _ _ _ _ _ us hl => match us, hl with | [_, _, _], _ => rfl⟩
theorem Flaw {K : PySem.W.Frag} (c : SaysS fs fn fx K) : ∃ fd, FunD K "law" "law" (defArgs slaw) (defBody slaw) (defScope slaw) [] [] (He.ga K "law") fd ∧ Binds K fd ["script"] [] := by
  obtain ⟨fd, F⟩ := c.def_ 11 (d := dlaw)
  exact ⟨fd, F, FunD.bindsN F fun _ _ _ _ _ _ us hl => match us, hl with | [_], _ => rfl⟩
section
variable {P : Program} {w : World} {K : PySem.W.Frag} {h base : Heap} {mg : Str → Option Value}
theorem g_number (X : K.In h) (G : h.Ns mainGlobals mg) (c : SaysS fs fn fx K) : Good PySem.Challenge.pw_everymorning_k97_error_classes w K mg base 1 "_law_number" ["got"] C_number := by
  obtain ⟨fd, F, b⟩ := F_law_number c
  exact good_mk (h := h) (He.glo_ok X G (c.fact 0)) F b sc_law_number (fun cdv A outer s H E c1 Ke hr tk => der_law_number (He.free_ok X G (c.fact 35)) (He.free_ok X G (c.fact 34)) (He.free_ok X G (c.fact 33)) cdv A outer s H E c1 Ke hr tk) SL.hw_number
theorem g_same0 (X : K.In h) (G : h.Ns mainGlobals mg) (c : SaysS fs fn fx K) : Good PySem.Challenge.pw_everymorning_k97_error_classes w K mg base 2 "_law_same" ["got", "due"] (C_same 0) := by
  obtain ⟨fd, F, b⟩ := F_law_same c
  exact good_mk (h := h) (He.glo_ok X G (c.fact 1)) F b sc_law_same (fun cdv A outer s H E c1 Ke hr tk => der_law_same (Good.mono (g_number X G c) (by decide)) (by obtain ⟨fd, F, b⟩ := F_law_same c; exact good_never (He.glo_ok X G (c.fact 1)) F b) (He.free_ok X G (c.fact 35)) (He.free_ok X G (c.fact 33)) (He.free_ok X G (c.fact 34)) (He.free_ok X G (c.fact 40)) (He.free_ok X G (c.fact 37)) (He.free_ok X G (c.fact 41)) (He.free_ok X G (c.fact 36)) (He.free_ok X G (c.fact 39)) cdv A outer s H E c1 Ke hr tk) SL.hw_same0
theorem g_same1 (X : K.In h) (G : h.Ns mainGlobals mg) (c : SaysS fs fn fx K) : Good PySem.Challenge.pw_everymorning_k97_error_classes w K mg base 3 "_law_same" ["got", "due"] (C_same 1) := by
  obtain ⟨fd, F, b⟩ := F_law_same c
  exact good_mk (h := h) (He.glo_ok X G (c.fact 1)) F b sc_law_same (fun cdv A outer s H E c1 Ke hr tk => der_law_same (Good.mono (g_number X G c) (by decide)) (Good.mono (g_same0 X G c) (by decide)) (He.free_ok X G (c.fact 35)) (He.free_ok X G (c.fact 33)) (He.free_ok X G (c.fact 34)) (He.free_ok X G (c.fact 40)) (He.free_ok X G (c.fact 37)) (He.free_ok X G (c.fact 41)) (He.free_ok X G (c.fact 36)) (He.free_ok X G (c.fact 39)) cdv A outer s H E c1 Ke hr tk) (SL.hw_same 0)
theorem g_pool (X : K.In h) (G : h.Ns mainGlobals mg) (c : SaysS fs fn fx K) : Good PySem.Challenge.pw_everymorning_k97_error_classes w K mg base 1 "_law_pool" ["script"] C_pool := by
  obtain ⟨fd, F, b⟩ := F_law_pool c
  exact good_mk (h := h) (He.glo_ok X G (c.fact 2)) F b sc_law_pool (fun cdv A outer s H E c1 Ke hr tk => der_law_pool (He.free_ok X G (c.fact 37)) cdv A outer s H E c1 Ke hr tk) SL.hw_pool
theorem g_take (X : K.In h) (G : h.Ns mainGlobals mg) (c : SaysS fs fn fx K) : Good PySem.Challenge.pw_everymorning_k97_error_classes w K mg base 1 "_law_take" ["pool", "limit"] C_take := by
  obtain ⟨fd, F, b⟩ := F_law_take c
  exact good_mk (h := h) (He.glo_ok X G (c.fact 3)) F b sc_law_take (fun cdv A outer s H E c1 Ke hr tk => der_law_take (He.free_ok X G (c.fact 36)) (He.free_ok X G (c.fact 32)) (He.free_ok X G (c.fact 34)) cdv A outer s H E c1 Ke hr tk) SL.hw_take
theorem g_great (X : K.In h) (G : h.Ns mainGlobals mg) (c : SaysS fs fn fx K) : Good PySem.Challenge.pw_everymorning_k97_error_classes w K mg base 2 "_law_great" ["pool", "most"] C_great := by
  obtain ⟨fd, F, b⟩ := F_law_great c
  exact good_mk (h := h) (He.glo_ok X G (c.fact 4)) F b sc_law_great (fun cdv A outer s H E c1 Ke hr tk => der_law_great (Good.mono (g_take X G c) (by decide)) (He.free_ok X G (c.fact 38)) (He.free_ok X G (c.fact 39)) (He.free_ok X G (c.fact 34)) cdv A outer s H E c1 Ke hr tk) SL.hw_great
theorem g_integer (X : K.In h) (G : h.Ns mainGlobals mg) (c : SaysS fs fn fx K) : Good PySem.Challenge.pw_everymorning_k97_error_classes w K mg base 3 "_law_integer" ["pool"] C_integer := by
  obtain ⟨fd, F, b⟩ := F_law_integer c
  exact good_mk (h := h) (He.glo_ok X G (c.fact 5)) F b sc_law_integer (fun cdv A outer s H E c1 Ke hr tk => der_law_integer (Good.mono (g_take X G c) (by decide)) (Good.mono (g_great X G c) (by decide)) cdv A outer s H E c1 Ke hr tk) hw_integer
theorem g_text (X : K.In h) (G : h.Ns mainGlobals mg) (c : SaysS fs fn fx K) : Good PySem.Challenge.pw_everymorning_k97_error_classes w K mg base 2 "_law_text" ["pool"] C_text := by
  obtain ⟨fd, F, b⟩ := F_law_text c
  exact good_mk (h := h) (He.glo_ok X G (c.fact 6)) F b sc_law_text (fun cdv A outer s H E c1 Ke hr tk => der_law_text (Good.mono (g_take X G c) (by decide)) (He.free_ok X G (c.fact 39)) (He.free_ok X G (c.fact 36)) cdv A outer s H E c1 Ke hr tk) hw_text
theorem g_drawn (X : K.In h) (G : h.Ns mainGlobals mg) (c : SaysS fs fn fx K) : Good PySem.Challenge.pw_everymorning_k97_error_classes w K mg base 4 "_law_drawn" ["pool"] C_drawn := by
  obtain ⟨fd, F, b⟩ := F_law_drawn c
  exact good_mk (h := h) (He.glo_ok X G (c.fact 7)) F b sc_law_drawn (fun cdv A outer s H E c1 Ke hr tk => der_law_drawn (Good.mono (g_integer X G c) (by decide)) (Good.mono (g_text X G c) (by decide)) (Good.mono (g_take X G c) (by decide)) (He.free_ok X G (c.fact 41)) (He.free_ok X G (c.fact 39)) cdv A outer s H E c1 Ke hr tk) hw_drawn
theorem g_made (X : K.In h) (G : h.Ns mainGlobals mg) (c : SaysS fs fn fx K) (hT : (PySem.Challenge.pw_everymorning_k97_error_classes.main.scope.names.lookup ("super" : Str)).isSome = false) : Good PySem.Challenge.pw_everymorning_k97_error_classes w K mg base 1 "_law_made" ["k", "at", "code", "reason"] (C_made K) := by
  obtain ⟨fd, F, b⟩ := F_law_made c
  exact good_mk (h := h) (He.glo_ok X G (c.fact 8)) F b sc_law_made (fun cdv A outer s H E c1 Ke hr tk => der_law_made (He.glo_ok X G (c.fact 13)) (He.glo_ok X G (c.fact 14)) (He.glo_ok X G (c.fact 15)) (He.glo_ok X G (c.fact 16)) (He.glo_ok X G (c.fact 17)) (He.glo_ok X G (c.fact 18)) (He.glo_ok X G (c.fact 19)) (He.glo_ok X G (c.fact 20)) (He.glo_ok X G (c.fact 21)) (He.glo_ok X G (c.fact 22)) (He.glo_ok X G (c.fact 23)) (He.glo_ok X G (c.fact 24)) (He.glo_ok X G (c.fact 25)) (He.glo_ok X G (c.fact 26)) (He.glo_ok X G (c.fact 27)) (He.glo_ok X G (c.fact 28)) (He.glo_ok X G (c.fact 29)) (He.glo_ok X G (c.fact 30)) (tx_ok hT (c.fact 42) (c.fact 43) (c.x_ 0)) ⟨_, fun _ _ _ => ⟨by rfl, by rfl, by rfl⟩⟩ ⟨((hCaK c _ (by simp [Ca])).2).1, ((hCaK c _ (by simp [Ca])).2).2.1⟩ (tx_ok hT (c.fact 44) (c.fact 45) (c.x_ 1)) ⟨_, fun _ _ _ => ⟨by rfl, by rfl, by rfl⟩⟩ ⟨((hCaK c _ (by simp [Ca])).2).1, ((hCaK c _ (by simp [Ca])).2).2.1⟩ (tx_ok hT (c.fact 46) (c.fact 47) (c.x_ 2)) ⟨_, fun _ _ _ => ⟨by rfl, by rfl, by rfl⟩⟩ ⟨((hCaK c _ (by simp [Ca])).2).1, ((hCaK c _ (by simp [Ca])).2).2.1⟩ (tx_ok hT (c.fact 48) (c.fact 49) (c.x_ 3)) ⟨_, fun _ _ _ => ⟨by rfl, by rfl, by rfl⟩⟩ ⟨((hCaK c _ (by simp [Ca])).2).1, ((hCaK c _ (by simp [Ca])).2).2.1⟩ (tx_ok hT (c.fact 50) (c.fact 51) (c.x_ 4)) ⟨_, fun _ _ _ => ⟨by rfl, by rfl, by rfl⟩⟩ ⟨((hCaK c _ (by simp [Ca])).2).1, ((hCaK c _ (by simp [Ca])).2).2.1⟩ (tx_ok hT (c.fact 52) (c.fact 53) (c.x_ 5)) ⟨_, fun _ _ _ => ⟨by rfl, by rfl, by rfl⟩⟩ ⟨((hCaK c _ (by simp [Ca])).2).1, ((hCaK c _ (by simp [Ca])).2).2.1⟩ (tx_ok hT (c.fact 54) (c.fact 55) (c.x_ 6)) ⟨_, fun _ _ _ => ⟨by rfl, by rfl, by rfl⟩⟩ ⟨((hCaK c _ (by simp [Ca])).2).1, ((hCaK c _ (by simp [Ca])).2).2.1⟩ (tx_ok hT (c.fact 56) (c.fact 57) (c.x_ 7)) ⟨_, fun _ _ _ => ⟨by rfl, by rfl, by rfl⟩⟩ ⟨((hCaK c _ (by simp [Ca])).2).1, ((hCaK c _ (by simp [Ca])).2).2.1⟩ (tx_ok hT (c.fact 58) (c.fact 59) (c.x_ 8)) ⟨_, fun _ _ _ => ⟨by rfl, by rfl, by rfl⟩⟩ ⟨((hCaK c _ (by simp [Ca])).2).1, ((hCaK c _ (by simp [Ca])).2).2.1⟩ (tx_ok hT (c.fact 60) (c.fact 61) (c.x_ 9)) ⟨_, fun _ _ _ => ⟨by rfl, by rfl, by rfl⟩⟩ ⟨((hCaK c _ (by simp [Ca])).2).1, ((hCaK c _ (by simp [Ca])).2).2.1⟩ (tx_ok hT (c.fact 70) (c.fact 71) (c.x_ 14)) ⟨_, fun _ _ _ => ⟨by rfl, by rfl, by rfl⟩⟩ ⟨((hCaK c _ (by simp [Ca])).2).1, ((hCaK c _ (by simp [Ca])).2).2.1⟩ (tx_ok hT (c.fact 62) (c.fact 63) (c.x_ 10)) ⟨_, fun _ _ _ => ⟨by rfl, by rfl, by rfl⟩⟩ ⟨((hCaK c _ (by simp [Ca])).2).1, ((hCaK c _ (by simp [Ca])).2).2.1⟩ (tx_ok hT (c.fact 64) (c.fact 65) (c.x_ 11)) ⟨_, fun _ _ _ => ⟨by rfl, by rfl, by rfl⟩⟩ ⟨((hCaK c _ (by simp [Ca])).2).1, ((hCaK c _ (by simp [Ca])).2).2.1⟩ (tx_ok hT (c.fact 66) (c.fact 67) (c.x_ 12)) ⟨_, fun _ _ _ => ⟨by rfl, by rfl, by rfl⟩⟩ ⟨((hCaK c _ (by simp [Ca])).2).1, ((hCaK c _ (by simp [Ca])).2).2.1⟩ (tx_ok hT (c.fact 68) (c.fact 69) (c.x_ 13)) ⟨_, fun _ _ _ => ⟨by rfl, by rfl, by rfl⟩⟩ ⟨((hCaK c _ (by simp [Ca])).2).1, ((hCaK c _ (by simp [Ca])).2).2.1⟩ (tx_ok hT (c.fact 72) (c.fact 73) (c.x_ 15)) ⟨_, fun _ _ _ => ⟨by rfl, by rfl, by rfl⟩⟩ (((hCrK c _ (by simp [Cr])).2).2.2) (tx_ok hT (c.fact 74) (c.fact 75) (c.x_ 16)) ⟨_, fun _ _ _ => ⟨by rfl, by rfl, by rfl⟩⟩ (((hCrK c _ (by simp [Cr])).2).2.2) (exc0_ok (c.fact 80)) cdv A outer s H E c1 Ke hr tk) hw_made
theorem g_kin (X : K.In h) (G : h.Ns mainGlobals mg) (c : SaysS fs fn fx K) : Good PySem.Challenge.pw_everymorning_k97_error_classes w K mg base 1 "_law_kin" ["e"] (C_kin K) := by
  obtain ⟨fd, F, b⟩ := F_law_kin c
  exact good_mk (h := h) (He.glo_ok X G (c.fact 9)) F b sc_law_kin (fun cdv A outer s H E c1 Ke hr tk => der_law_kin (He.free_ok X G (c.fact 35)) (He.glo_ok X G (c.fact 13)) (He.glo_ok X G (c.fact 14)) (He.glo_ok X G (c.fact 15)) (He.glo_ok X G (c.fact 16)) (He.glo_ok X G (c.fact 17)) (He.glo_ok X G (c.fact 18)) (He.glo_ok X G (c.fact 19)) (He.glo_ok X G (c.fact 20)) (He.glo_ok X G (c.fact 21)) (He.glo_ok X G (c.fact 22)) (He.glo_ok X G (c.fact 23)) (He.glo_ok X G (c.fact 24)) (He.glo_ok X G (c.fact 25)) (He.glo_ok X G (c.fact 26)) (He.glo_ok X G (c.fact 27)) (He.glo_ok X G (c.fact 28)) (He.glo_ok X G (c.fact 29)) (He.glo_ok X G (c.fact 30)) (fun C h => (hCsK c C h).1) cdv A outer s H E c1 Ke hr tk) hw_kin
theorem g_holds (X : K.In h) (G : h.Ns mainGlobals mg) (c : SaysS fs fn fx K) : Good PySem.Challenge.pw_everymorning_k97_error_classes w K mg base 4 "_law_holds" ["k", "e", "drawn"] (C_holds K) := by
  obtain ⟨fd, F, b⟩ := F_law_holds c
  exact good_mk (h := h) (He.glo_ok X G (c.fact 10)) F b sc_law_holds (fun cdv A outer s H E c1 Ke hr tk => der_law_holds (Good.mono (g_kin X G c) (by decide)) (Good.mono (g_same1 X G c) (by decide)) (He.free_ok X G (c.fact 35)) (He.free_ok X G (c.fact 31)) (He.free_ok X G (c.fact 39)) (He.glo_ok X G (c.fact 12)) (fun C h => (hCsK c C h).1) (fun C h => ⟨(hCaK c C h).1, (hCaK c C h).2.1⟩) (fun C h => ⟨(hCaK c C h).1, (hCaK c C h).2.2.1⟩) (fun C h => ⟨(hCrK c C h).1, (hCrK c C h).2.2.2⟩) cdv A outer s H E c1 Ke hr tk) hw_holds
theorem g_law (X : K.In h) (G : h.Ns mainGlobals mg) (c : SaysS fs fn fx K) (hT : (PySem.Challenge.pw_everymorning_k97_error_classes.main.scope.names.lookup ("super" : Str)).isSome = false) : Good PySem.Challenge.pw_everymorning_k97_error_classes w K mg base 5 "law" ["script"] (C_law K) := by
  obtain ⟨fd, F, b⟩ := Flaw c
  exact good_mk (h := h) (He.glo_ok X G (c.fact 11)) F b sclaw (fun cdv A outer s H E c1 Ke hr tk => derlaw (Good.mono (g_pool X G c) (by decide)) (Good.mono (g_drawn X G c) (by decide)) (Good.mono (g_made X G c hT) (by decide)) (Good.mono (g_holds X G c) (by decide)) (He.free_ok X G (c.fact 39)) cdv A outer s H E c1 Ke hr tk) (hw_law (fK c))
theorem fn_law (X : K.In h) (G : h.Ns mainGlobals mg) (c : SaysS fs fn fx K) (hT : (PySem.Challenge.pw_everymorning_k97_error_classes.main.scope.names.lookup ("super" : Str)).isSome = false) : ∃ fd, (∀ (s : Shared) (u : Value), BindsTo s fd ⟨[u], []⟩ [("script", u)]) ∧ ∀ base : Heap, FnOk PySem.Challenge.pw_everymorning_k97_error_classes w K mg base (L2.CX PySem.Challenge.pw_everymorning_k97_error_classes w) 5 (He.ga K "law") fd ["script"] (SpI K 1 (C_law K)) := by
  obtain ⟨fd, F⟩ := c.def_ 11 (d := dlaw)
  have b := FunD.bindsA (ps := ["script"]) F fun _ _ _ _ _ _ us hl => match us, hl with | [_], _ => rfl
  exact ⟨fd, fun s v => b s [v] rfl, fun base => Good.fn F sclaw (fun cdv A outer s H E c1 Ke hr tk => derlaw (Good.mono (g_pool X G c) (by decide)) (Good.mono (g_drawn X G c) (by decide)) (Good.mono (g_made X G c hT) (by decide)) (Good.mono (g_holds X G c) (by decide)) (He.free_ok X G (c.fact 39)) cdv A outer s H E c1 Ke hr tk) (hw_law (fK c))⟩
end
end K97

set_option Elab.async false
set_option linter.all false
set_option maxRecDepth 100000
set_option maxHeartbeats 4000000
open PySem PySem.W PySem.Calls PyProof.Rows
set_option maxRecDepth 100000 in
set_option maxHeartbeats 8000000 in
theorem PySem.Challenge.cw_everymorning_k97_error_classes_holds : PySem.Challenge.rw_everymorning_k97_error_classes.Holds := by
  w_on; o_law
  refine HandSHeadRun.head_any (r := OpenLaw.row PySem.Challenge.rw_everymorning_k97_error_classes) (q := view (OpenLaw.row PySem.Challenge.rw_everymorning_k97_error_classes).prog [32]) (H := K97.hk) (ob := K97.ob) (M := 6000) (loose := K97.loose) (d := HandSHeadRun.topDef (OpenLaw.row PySem.Challenge.rw_everymorning_k97_error_classes).prog 32) (kwd := []) K97.ob_eq
    (by kernel_rfl) (fun s => by kernel_rfl) K97.run (by kernel_rfl) (by kernel_rfl) (by kernel_rfl) (by rfl) (by first | assumption | decide +kernel) (by decide +kernel) ⟨rfl, rfl, rfl, rfl, rfl, by decide +kernel⟩ ?hw ?hc
  case hw => w_witness2
  case hc =>
    refine SL.walk_sl (l := PySem.Challenge.rw_everymorning_k97_error_classes) (n := 63) (k := 5) (x := "script") rfl (by decide) (by kernel_rfl) ⟨rfl, by decide, by decide⟩ ?F
    intro w mg fa h Y G hmg0
    obtain ⟨K, KX, c⟩ := Y
    have hmg : mg ("law" : PySem.Str) = some (.ref fa) := by
      have e : (HandSHeadRun.topDef (OpenLaw.row PySem.Challenge.rw_everymorning_k97_error_classes).prog 32).name = ("law" : PySem.Str) := by kernel_rfl
      rw [← e]
      exact hmg0
    have e := hmg.symm.trans (He.glo_ok KX G (c.fact 11))
    cases e
    obtain ⟨fd, hb, hF⟩ := K97.fn_law (w := w) KX G c (by decide +kernel)
    exact ⟨K, fd, K97.C_law K, KX, hb, fun ns Kr Kx hl h => ⟨ns, rfl, hl, h⟩, fun base _ _ => hF base⟩
