import PyProof.Rows.All
import Wide.All
import OpenK.AllK
import Wide.FinOn
import HandS.ForMost
import HandS.ForExc
import HandS.FStr
import HandS.TupMul
import HandS.TupAny
import HandS.IsInst
import HandS.RaiseMore
import KE.KIntText
import PySem.Challenge.RW_everybodyout_k48_paper_text_there_and_ba
set_option Elab.async false
set_option linter.all false
set_option maxRecDepth 100000
set_option maxHeartbeats 0
namespace DV
open PySem PySem.Spec PyProof.Rows L2

/-! ## plain data, owned trees -/
inductive D where
  | non | bl (b : Bool) | int (i : Int) | str (x : Str) | ref (a : Addr)
  | lst (l : List D) | tup (l : List D) | dct (ks : List Key) (l : List D) | dtt (ks : List (List Key)) (l : List D)
  | ins (C : Addr) (ks : List Str) (l : List D)
  /-- a list that may be locked (the script), or stands in the text -/
  | frl (l : List D)
  /-- forgotten -/
  | any
inductive T where
  | sh (d : D)
  | lst (l : List T) | tup (l : List T) | dct (ks : List Key) (l : List T) | dtt (ks : List (List Key)) (l : List T)
  | ins (C : Addr) (ks : List Str) (l : List T)
instance : Inhabited D := ⟨.non⟩
instance : Inhabited T := ⟨.sh .non⟩

mutual
def Rep (K : PySem.W.Frag) (G : Hp) : D → V → Prop
  | .any, _ => True
  | .non, v => v = .non
  | .bl b, v => v = .bl b
  | .int i, v => v = .int i
  | .str x, v => v = .str x
  | .ref a, v => v = .ref a
  | .lst l, v => ∃ a xs, v = .ref a ∧ G a = some (.lst xs) ∧ RepL K G l xs
  | .frl l, v => ∃ a xs, v = .ref a ∧ SqL K G a xs ∧ RepL K G l xs
  | .tup l, v => ∃ a xs, v = .ref a ∧ SqT K G a xs ∧ RepL K G l xs
  | .dct ks l, v => ∃ a kvs, v = .ref a ∧ Rd G a (.dK kvs) ∧ kvs.map (·.1) = ks ∧ RepL K G l (kvs.map (·.2))
  | .dtt ks l, v => ∃ a kvs, v = .ref a ∧ Rd G a (.dT kvs) ∧ kvs.map (·.1) = ks ∧ RepL K G l (kvs.map (·.2))
  | .ins C ks l, v => ∃ a dx gs, v = .ref a ∧ G a = some (.ins C dx gs) ∧ gs.map (·.1) = ks ∧ RepL K G l (gs.map (·.2))
def RepL (K : PySem.W.Frag) (G : Hp) : List D → List V → Prop
  | [], xs => xs = []
  | d :: ds, xs => ∃ x r, xs = x :: r ∧ Rep K G d x ∧ RepL K G ds r
end
mutual
def T.d : T → D
  | .sh d => d
  | .lst l => .lst (T.dl l)
  | .tup l => .tup (T.dl l)
  | .dct ks l => .dct ks (T.dl l)
  | .dtt ks l => .dtt ks (T.dl l)
  | .ins C ks l => .ins C ks (T.dl l)
def T.dl : List T → List D
  | [] => []
  | t :: ts => T.d t :: T.dl ts
end
mutual
def Own (K : PySem.W.Frag) (G H : Hp) : T → V → List Addr → Prop
  | .sh d, v, fp => fp = [] ∧ Rep K G d v
  | .lst l, v, fp => ∃ p xs f, v = .ref p ∧ fp = p :: f ∧ H p = some (.lst xs) ∧ OwnL K G H l xs f
  | .tup l, v, fp => ∃ p xs f, v = .ref p ∧ fp = p :: f ∧ H p = some (.tup xs) ∧ OwnL K G H l xs f
  | .dct ks l, v, fp => ∃ p kvs f, v = .ref p ∧ fp = p :: f ∧ H p = some (.dK kvs) ∧ kvs.map (·.1) = ks ∧ OwnL K G H l (kvs.map (·.2)) f
  | .dtt ks l, v, fp => ∃ p kvs f, v = .ref p ∧ fp = p :: f ∧ H p = some (.dT kvs) ∧ kvs.map (·.1) = ks ∧ OwnL K G H l (kvs.map (·.2)) f
  | .ins C ks l, v, fp => ∃ p dx gs f, v = .ref p ∧ fp = p :: f ∧ H p = some (.ins C dx gs) ∧ gs.map (·.1) = ks ∧ OwnL K G H l (gs.map (·.2)) f
def OwnL (K : PySem.W.Frag) (G H : Hp) : List T → List V → List Addr → Prop
  | [], xs, fp => xs = [] ∧ fp = []
  | t :: ts, xs, fp => ∃ x r f g, xs = x :: r ∧ fp = f ++ g ∧ Own K G H t x f ∧ OwnL K G H ts r g
end

theorem Same.sqt {K : PySem.W.Frag} {H H' : Hp} {a : Addr} {xs : List V} (e : Same H H') (h : SqT K H a xs) : SqT K H' a xs := by
  rcases h with (h | ⟨o, h⟩) | h
  · exact .inl (.inl (e _ _ h))
  · exact .inl (.inr ⟨o, e _ _ h⟩)
  · exact .inr h
theorem Same.rd {H H' : Hp} {a : Addr} {u : HO} (e : Same H H') (h : Rd H a u) : Rd H' a u := by
  rcases h with h | ⟨o, h⟩
  · exact .inl (e _ _ h)
  · exact .inr ⟨o, e _ _ h⟩

section
variable {K : PySem.W.Frag}
mutual
theorem Rep.mono {G G' : Hp} (s : Same G G') : ∀ (d : D) (v : V), Rep K G d v → Rep K G' d v
  | .any, _, h => by simpa [Rep] using h
  | .non, _, h => by simpa [Rep] using h
  | .bl _, _, h => by simpa [Rep] using h
  | .int _, _, h => by simpa [Rep] using h
  | .str _, _, h => by simpa [Rep] using h
  | .ref _, _, h => by simpa [Rep] using h
  | .lst l, v, h => by
    simp only [Rep] at h ⊢
    obtain ⟨a, xs, e, q, r⟩ := h
    exact ⟨a, xs, e, s _ _ q, RepL.mono s l xs r⟩
  | .frl l, v, h => by
    simp only [Rep] at h ⊢
    obtain ⟨a, xs, e, q, r⟩ := h
    exact ⟨a, xs, e, s.seq q, RepL.mono s l xs r⟩
  | .tup l, v, h => by
    simp only [Rep] at h ⊢
    obtain ⟨a, xs, e, q, r⟩ := h
    exact ⟨a, xs, e, Same.sqt s q, RepL.mono s l xs r⟩
  | .dct ks l, v, h => by
    simp only [Rep] at h ⊢
    obtain ⟨a, xs, e, q, m, r⟩ := h
    exact ⟨a, xs, e, Same.rd s q, m, RepL.mono s l _ r⟩
  | .dtt ks l, v, h => by
    simp only [Rep] at h ⊢
    obtain ⟨a, xs, e, q, m, r⟩ := h
    exact ⟨a, xs, e, Same.rd s q, m, RepL.mono s l _ r⟩
  | .ins C ks l, v, h => by
    simp only [Rep] at h ⊢
    obtain ⟨a, dx, xs, e, q, m, r⟩ := h
    exact ⟨a, dx, xs, e, s _ _ q, m, RepL.mono s l _ r⟩
theorem RepL.mono {G G' : Hp} (s : Same G G') : ∀ (l : List D) (xs : List V), RepL K G l xs → RepL K G' l xs
  | [], xs, h => by simpa [RepL] using h
  | d :: ds, xs, h => by
    simp only [RepL] at h ⊢
    obtain ⟨x, r, e, h1, h2⟩ := h
    exact ⟨x, r, e, Rep.mono s d x h1, RepL.mono s ds r h2⟩
end
mutual
/-- an owned tree leans on G and on its own addresses in H -/
theorem Own.mono {G G' H H' : Hp} (s : Same G G') : ∀ (t : T) (v : V) (fp : List Addr), (∀ p ∈ fp, H' p = H p) → Own K G H t v fp → Own K G' H' t v fp
  | .sh d, v, fp, _, h => by
    simp only [Own] at h ⊢
    exact ⟨h.1, Rep.mono s d v h.2⟩
  | .lst l, v, fp, k, h => by
    simp only [Own] at h ⊢
    obtain ⟨p, xs, f, e, e2, q, r⟩ := h
    subst e2
    exact ⟨p, xs, f, e, rfl, (k p (by simp)).trans q, OwnL.mono s l xs f (fun b hb => k b (by simp [hb])) r⟩
  | .tup l, v, fp, k, h => by
    simp only [Own] at h ⊢
    obtain ⟨p, xs, f, e, e2, q, r⟩ := h
    subst e2
    exact ⟨p, xs, f, e, rfl, (k p (by simp)).trans q, OwnL.mono s l xs f (fun b hb => k b (by simp [hb])) r⟩
  | .dct ks l, v, fp, k, h => by
    simp only [Own] at h ⊢
    obtain ⟨p, xs, f, e, e2, q, m, r⟩ := h
    subst e2
    exact ⟨p, xs, f, e, rfl, (k p (by simp)).trans q, m, OwnL.mono s l _ f (fun b hb => k b (by simp [hb])) r⟩
  | .dtt ks l, v, fp, k, h => by
    simp only [Own] at h ⊢
    obtain ⟨p, xs, f, e, e2, q, m, r⟩ := h
    subst e2
    exact ⟨p, xs, f, e, rfl, (k p (by simp)).trans q, m, OwnL.mono s l _ f (fun b hb => k b (by simp [hb])) r⟩
  | .ins C ks l, v, fp, k, h => by
    simp only [Own] at h ⊢
    obtain ⟨p, dx, xs, f, e, e2, q, m, r⟩ := h
    subst e2
    exact ⟨p, dx, xs, f, e, rfl, (k p (by simp)).trans q, m, OwnL.mono s l _ f (fun b hb => k b (by simp [hb])) r⟩
theorem OwnL.mono {G G' H H' : Hp} (s : Same G G') : ∀ (l : List T) (xs : List V) (fp : List Addr), (∀ p ∈ fp, H' p = H p) → OwnL K G H l xs fp → OwnL K G' H' l xs fp
  | [], xs, fp, _, h => by simpa [OwnL] using h
  | t :: ts, xs, fp, k, h => by
    simp only [OwnL] at h ⊢
    obtain ⟨x, r, f, g, e, e2, h1, h2⟩ := h
    subst e2
    exact ⟨x, r, f, g, e, rfl, Own.mono s t x f (fun b hb => k b (by simp [hb])) h1, OwnL.mono s ts r g (fun b hb => k b (by simp [hb])) h2⟩
end
mutual
theorem Own.dom {G H : Hp} : ∀ (t : T) (v : V) (fp : List Addr), Own K G H t v fp → ∀ p ∈ fp, ∃ o, H p = some o
  | .sh d, v, fp, h, p, hp => by
    simp only [Own] at h
    rw [h.1] at hp; cases hp
  | .lst l, v, fp, h, b, hb => by
    simp only [Own] at h
    obtain ⟨p, xs, f, e, e2, q, r⟩ := h
    subst e2
    rcases List.mem_cons.mp hb with rfl | hb
    · exact ⟨_, q⟩
    · exact OwnL.dom l xs f r b hb
  | .tup l, v, fp, h, b, hb => by
    simp only [Own] at h
    obtain ⟨p, xs, f, e, e2, q, r⟩ := h
    subst e2
    rcases List.mem_cons.mp hb with rfl | hb
    · exact ⟨_, q⟩
    · exact OwnL.dom l xs f r b hb
  | .dct ks l, v, fp, h, b, hb => by
    simp only [Own] at h
    obtain ⟨p, xs, f, e, e2, q, m, r⟩ := h
    subst e2
    rcases List.mem_cons.mp hb with rfl | hb
    · exact ⟨_, q⟩
    · exact OwnL.dom l _ f r b hb
  | .dtt ks l, v, fp, h, b, hb => by
    simp only [Own] at h
    obtain ⟨p, xs, f, e, e2, q, m, r⟩ := h
    subst e2
    rcases List.mem_cons.mp hb with rfl | hb
    · exact ⟨_, q⟩
    · exact OwnL.dom l _ f r b hb
  | .ins C ks l, v, fp, h, b, hb => by
    simp only [Own] at h
    obtain ⟨p, dx, xs, f, e, e2, q, m, r⟩ := h
    subst e2
    rcases List.mem_cons.mp hb with rfl | hb
    · exact ⟨_, q⟩
    · exact OwnL.dom l _ f r b hb
theorem OwnL.dom {G H : Hp} : ∀ (l : List T) (xs : List V) (fp : List Addr), OwnL K G H l xs fp → ∀ p ∈ fp, ∃ o, H p = some o
  | [], xs, fp, h, p, hp => by
    simp only [OwnL] at h
    rw [h.2] at hp; cases hp
  | t :: ts, xs, fp, h, p, hp => by
    simp only [OwnL] at h
    obtain ⟨x, r, f, g, e, e2, h1, h2⟩ := h
    subst e2
    rcases List.mem_append.mp hp with hp | hp
    · exact Own.dom t x f h1 p hp
    · exact OwnL.dom ts r g h2 p hp
end
mutual
/-- frozen: read where its own addresses stand in G' -/
theorem Own.frz {G G' H : Hp} (s : Same G G') : ∀ (t : T) (v : V) (fp : List Addr), (∀ p ∈ fp, G' p = H p) → Own K G H t v fp → Rep K G' t.d v
  | .sh d, v, fp, _, h => by
    simp only [Own] at h
    exact Rep.mono s d v h.2
  | .lst l, v, fp, k, h => by
    simp only [Own] at h
    obtain ⟨p, xs, f, e, e2, q, r⟩ := h
    subst e2
    simp only [T.d, Rep]
    exact ⟨p, xs, e, (k p (by simp)).trans q, OwnL.frz s l xs f (fun b hb => k b (by simp [hb])) r⟩
  | .tup l, v, fp, k, h => by
    simp only [Own] at h
    obtain ⟨p, xs, f, e, e2, q, r⟩ := h
    subst e2
    simp only [T.d, Rep]
    exact ⟨p, xs, e, .of ((k p (by simp)).trans q), OwnL.frz s l xs f (fun b hb => k b (by simp [hb])) r⟩
  | .dct ks l, v, fp, k, h => by
    simp only [Own] at h
    obtain ⟨p, xs, f, e, e2, q, m, r⟩ := h
    subst e2
    simp only [T.d, Rep]
    exact ⟨p, xs, e, .inl ((k p (by simp)).trans q), m, OwnL.frz s l _ f (fun b hb => k b (by simp [hb])) r⟩
  | .dtt ks l, v, fp, k, h => by
    simp only [Own] at h
    obtain ⟨p, xs, f, e, e2, q, m, r⟩ := h
    subst e2
    simp only [T.d, Rep]
    exact ⟨p, xs, e, .inl ((k p (by simp)).trans q), m, OwnL.frz s l _ f (fun b hb => k b (by simp [hb])) r⟩
  | .ins C ks l, v, fp, k, h => by
    simp only [Own] at h
    obtain ⟨p, dx, xs, f, e, e2, q, m, r⟩ := h
    subst e2
    simp only [T.d, Rep]
    exact ⟨p, dx, xs, e, (k p (by simp)).trans q, m, OwnL.frz s l _ f (fun b hb => k b (by simp [hb])) r⟩
theorem OwnL.frz {G G' H : Hp} (s : Same G G') : ∀ (l : List T) (xs : List V) (fp : List Addr), (∀ p ∈ fp, G' p = H p) → OwnL K G H l xs fp → RepL K G' (T.dl l) xs
  | [], xs, fp, _, h => by
    simp only [OwnL] at h
    simp only [T.dl, RepL]
    exact h.1
  | t :: ts, xs, fp, k, h => by
    simp only [OwnL] at h
    obtain ⟨x, r, f, g, e, e2, h1, h2⟩ := h
    subst e2
    simp only [T.dl, RepL]
    exact ⟨x, r, e, Own.frz s t x f (fun b hb => k b (by simp [hb])) h1, OwnL.frz s ts r g (fun b hb => k b (by simp [hb])) h2⟩
end
end

/-! ## heaps grow -/
structure Grow (G H G' H' : Hp) : Prop where
  g : Same G G'
  h : Same H H'
  gh : Same G' H'
  n : ∀ p o, H p = some o → G p = none → G' p = none
theorem Grow.refl {G H : Hp} (s : Same G H) : Grow G H G H := ⟨Same.refl G, Same.refl H, s, fun _ _ _ e => e⟩
theorem Grow.trans {G H G1 H1 G2 H2 : Hp} (a : Grow G H G1 H1) (b : Grow G1 H1 G2 H2) : Grow G H G2 H2 :=
  ⟨a.g.trans b.g, a.h.trans b.h, b.gh, fun p o e n => b.n p o (a.h p o e) (a.n p o e n)⟩
theorem same_upd {H : Hp} {p : Addr} {o : HO} (hp : H p = none) : Same H (upd H p o) := fun b u e => by
  rw [upd_ne (ne_of_none e hp)]; exact e
theorem Grow.alloc {G H : Hp} {p : Addr} {o : HO} (s : Same G H) (hp : H p = none) : Grow G H G (upd H p o) :=
  ⟨Same.refl G, same_upd hp, s.trans (same_upd hp), fun _ _ _ e => e⟩
theorem Own.grow {K : PySem.W.Frag} {G H G' H' : Hp} {t : T} {v : V} {fp : List Addr} (g : Grow G H G' H') (h : Own K G H t v fp) : Own K G' H' t v fp :=
  Own.mono g.g t v fp (fun p hp => by obtain ⟨o, e⟩ := Own.dom t v fp h p hp; rw [e, g.h _ _ e]) h
theorem OwnL.grow {K : PySem.W.Frag} {G H G' H' : Hp} {t : List T} {v : List V} {fp : List Addr} (g : Grow G H G' H') (h : OwnL K G H t v fp) : OwnL K G' H' t v fp :=
  OwnL.mono g.g t v fp (fun p hp => by obtain ⟨o, e⟩ := OwnL.dom t v fp h p hp; rw [e, g.h _ _ e]) h

/-- outside of what is frozen; fresh: new, no address twice -/
def Clean (fr : Bool) (H G' : Hp) (fp : List Addr) : Prop := (∀ p ∈ fp, G' p = none) ∧ (fr = true → fp.Nodup ∧ ∀ p ∈ fp, H p = none)
theorem Clean.nil {fr : Bool} {H G' : Hp} : Clean fr H G' [] := And.intro (fun _ h => by cases h) (fun _ => And.intro List.nodup_nil (fun _ h => by cases h))
theorem Clean.weak {fr : Bool} {H G' : Hp} {fp : List Addr} (c : Clean true H G' fp) : Clean fr H G' fp := ⟨c.1, fun _ => c.2 rfl⟩
/-- fp into the frozen part -/
noncomputable def frzAt (G H : Hp) (fp : List Addr) : Hp := fun p => by classical exact if p ∈ fp then H p else G p
theorem frzAt_in {G H : Hp} {fp : List Addr} {p : Addr} (h : p ∈ fp) : frzAt G H fp p = H p := by unfold frzAt; exact if_pos h
theorem frzAt_out {G H : Hp} {fp : List Addr} {p : Addr} (h : p ∉ fp) : frzAt G H fp p = G p := by unfold frzAt; exact if_neg h
theorem frzAt_same {G H : Hp} {fp : List Addr} (s : Same G H) : Same G (frzAt G H fp) := fun p o e => by
  by_cases h : p ∈ fp
  · rw [frzAt_in h]; exact s _ _ e
  · rw [frzAt_out h]; exact e
theorem frzAt_le {G H : Hp} {fp : List Addr} (s : Same G H) : Same (frzAt G H fp) H := fun p o e => by
  by_cases h : p ∈ fp
  · rw [frzAt_in h] at e; exact e
  · rw [frzAt_out h] at e; exact s _ _ e
theorem Grow.frz {G H G' H' : Hp} {fp : List Addr} (g : Grow G H G' H') (c : ∀ p ∈ fp, H p = none) : Grow G H (frzAt G' H' fp) H' :=
  ⟨g.g.trans (frzAt_same g.gh), g.h, frzAt_le g.gh, fun p o e n => by
    have : p ∉ fp := fun h => by rw [c p h] at e; cases e
    rw [frzAt_out this]; exact g.n p o e n⟩
theorem Own.frozen {K : PySem.W.Frag} {G H : Hp} {t : T} {v : V} {fp : List Addr} (s : Same G H) (h : Own K G H t v fp) : Rep K (frzAt G H fp) t.d v :=
  Own.frz (frzAt_same s) t v fp (fun _ hp => frzAt_in hp) h
theorem OwnL.frozen {K : PySem.W.Frag} {G H : Hp} {t : List T} {v : List V} {fp : List Addr} (s : Same G H) (h : OwnL K G H t v fp) : RepL K (frzAt G H fp) (T.dl t) v :=
  OwnL.frz (frzAt_same s) t v fp (fun _ hp => frzAt_in hp) h

theorem RepL.length {K : PySem.W.Frag} {G : Hp} : ∀ (l : List D) (xs : List V), RepL K G l xs → xs.length = l.length
  | [], xs, h => by simp only [RepL] at h; rw [h]; rfl
  | d :: ds, xs, h => by
    simp only [RepL] at h
    obtain ⟨x, r, e, _, h2⟩ := h
    rw [e, List.length_cons, List.length_cons, RepL.length ds r h2]
theorem OwnL.length {K : PySem.W.Frag} {G H : Hp} : ∀ (l : List T) (xs : List V) (fp : List Addr), OwnL K G H l xs fp → xs.length = l.length
  | [], xs, fp, h => by simp only [OwnL] at h; rw [h.1]; rfl
  | d :: ds, xs, fp, h => by
    simp only [OwnL] at h
    obtain ⟨x, r, f, g, e, _, _, h2⟩ := h
    rw [e, List.length_cons, List.length_cons, OwnL.length ds r g h2]
theorem RepL.get {K : PySem.W.Frag} {G : Hp} : ∀ (l : List D) (xs : List V) (i : Nat) (x : V), RepL K G l xs → xs[i]? = some x → ∃ d, l[i]? = some d ∧ Rep K G d x
  | [], xs, i, x, h, e => by simp only [RepL] at h; rw [h] at e; simp at e
  | d :: ds, xs, i, x, h, e => by
    simp only [RepL] at h
    obtain ⟨y, r, e1, h1, h2⟩ := h
    subst e1
    cases i with
    | zero =>
      have : y = x := by simpa using e
      subst this
      exact ⟨d, rfl, h1⟩
    | succ j => exact RepL.get ds r j x h2 (by simpa using e)
theorem RepL.get' {K : PySem.W.Frag} {G : Hp} {l : List D} {xs : List V} {i : Nat} {d : D} (h : RepL K G l xs) (e : l[i]? = some d) : ∃ x, xs[i]? = some x ∧ Rep K G d x := by
  have hl := RepL.length l xs h
  have hi : i < xs.length := by rw [hl]; exact (List.getElem?_eq_some_iff.mp e).1
  obtain ⟨d', e', r⟩ := RepL.get l xs i _ h (List.getElem?_eq_getElem hi)
  rw [e] at e'; cases e'
  exact ⟨_, List.getElem?_eq_getElem hi, r⟩
theorem OwnL.get {K : PySem.W.Frag} {G H : Hp} : ∀ (l : List T) (xs : List V) (fp : List Addr) (i : Nat) (t : T), OwnL K G H l xs fp → l[i]? = some t → ∃ x f, xs[i]? = some x ∧ Own K G H t x f ∧ ∀ p ∈ f, p ∈ fp
  | [], xs, fp, i, x, h, e => by simp at e
  | d :: ds, xs, fp, i, t, h, e => by
    simp only [OwnL] at h
    obtain ⟨y, r, f, g, e1, e2, h1, h2⟩ := h
    subst e1 e2
    cases i with
    | zero =>
      have : d = t := by simpa using e
      subst this
      exact ⟨y, f, rfl, h1, fun p hp => List.mem_append_left _ hp⟩
    | succ j =>
      obtain ⟨x, f', a, b, c⟩ := OwnL.get ds r g j t h2 (by simpa using e)
      exact ⟨x, f', by simpa using a, b, fun p hp => List.mem_append_right _ (c p hp)⟩
theorem RepL.append {K : PySem.W.Frag} {G : Hp} : ∀ {l m : List D} {xs ys : List V}, RepL K G l xs → RepL K G m ys → RepL K G (l ++ m) (xs ++ ys)
  | [], m, xs, ys, h, h' => by simp only [RepL] at h; rw [h]; exact h'
  | d :: ds, m, xs, ys, h, h' => by
    simp only [RepL] at h
    obtain ⟨x, r, e, h1, h2⟩ := h
    subst e
    simp only [List.cons_append, RepL]
    exact ⟨x, r ++ ys, rfl, h1, RepL.append h2 h'⟩
theorem OwnL.append {K : PySem.W.Frag} {G H : Hp} : ∀ {l m : List T} {xs ys : List V} {f g : List Addr}, OwnL K G H l xs f → OwnL K G H m ys g → OwnL K G H (l ++ m) (xs ++ ys) (f ++ g)
  | [], m, xs, ys, f, g, h, h' => by simp only [OwnL] at h; rw [h.1, h.2]; exact h'
  | d :: ds, m, xs, ys, f, g, h, h' => by
    simp only [OwnL] at h
    obtain ⟨x, r, f1, f2, e, e2, h1, h2⟩ := h
    subst e e2
    simp only [List.cons_append, OwnL]
    exact ⟨x, r ++ ys, f1, f2 ++ g, rfl, by simp, h1, OwnL.append h2 h'⟩
/-- shared items -/
theorem OwnL.of_rep {K : PySem.W.Frag} {G H : Hp} : ∀ {l : List D} {xs : List V}, RepL K G l xs → OwnL K G H (l.map T.sh) xs []
  | [], xs, h => by simp only [RepL] at h; simp [OwnL, h]
  | d :: ds, xs, h => by
    simp only [RepL] at h
    obtain ⟨x, r, e, h1, h2⟩ := h
    subst e
    simp only [List.map_cons, OwnL]
    exact ⟨x, r, [], [], rfl, rfl, by simp only [Own]; exact ⟨trivial, h1⟩, OwnL.of_rep h2⟩
def T.shl : List T → Option (List D)
  | [] => some []
  | .sh d :: ts => (T.shl ts).map (d :: ·)
  | _ => none
theorem OwnL.of_shl {K : PySem.W.Frag} {G H : Hp} : ∀ {l : List T} {ds : List D} {xs : List V} {fp : List Addr}, T.shl l = some ds → OwnL K G H l xs fp → fp = [] ∧ RepL K G ds xs
  | [], ds, xs, fp, e, h => by
    simp only [T.shl, Option.some.injEq] at e; subst e
    simp only [OwnL] at h
    exact ⟨h.2, by simp only [RepL]; exact h.1⟩
  | .sh d :: ts, ds, xs, fp, e, h => by
    simp only [T.shl] at e
    cases q : T.shl ts with
    | none => rw [q] at e; cases e
    | some es =>
      rw [q] at e
      simp only [Option.map_some, Option.some.injEq] at e
      subst e
      simp only [OwnL] at h
      obtain ⟨x, r, f, g, e1, e2, h1, h2⟩ := h
      obtain ⟨g0, r2⟩ := OwnL.of_shl q h2
      simp only [Own] at h1
      subst e1 e2 g0
      rw [h1.1]
      refine ⟨rfl, ?_⟩
      simp only [RepL]
      exact ⟨x, r, rfl, h1.2, r2⟩
  | .lst _ :: _, _, _, _, e, _ => by simp [T.shl] at e
  | .tup _ :: _, _, _, _, e, _ => by simp [T.shl] at e
  | .dct _ _ :: _, _, _, _, e, _ => by simp [T.shl] at e
  | .dtt _ _ :: _, _, _, _, e, _ => by simp [T.shl] at e
  | .ins _ _ _ :: _, _, _, _, e, _ => by simp [T.shl] at e
end DV

namespace DV
open PySem PySem.Spec PyProof.Rows L2

/-! ## outcomes -/
abbrev St := L2.St
abbrev Env := List (Option T)
/-- an exception: its class, the names and values of its own dict -/
structure Exn where
  cls : Value
  fs : Option (List Str × List D)
inductive EO (α : Type) where
  | ok (a : α)
  | exc (x : Exn)
def ExcAt (K : PySem.W.Frag) (G H : Hp) (x : Exn) (d : Option Addr) : Prop :=
  match x.fs with
  | none => d = none
  | some (ks, l) => ∃ a gs, d = some a ∧ H a = some (.xd gs) ∧ gs.map (·.1) = ks ∧ RepL K G l (gs.map (·.2))
/-- what may be read of the frame -/
def Slots (K : PySem.W.Frag) (G H : Hp) (σ : St) (ρ : Env) : Prop :=
  σ.length = ρ.length ∧ ∀ (i : Nat) (t : T), ρ[i]? = some (some t) → ∃ v fp, σ[i]? = some (some v) ∧ Own K G H t v fp ∧ ∀ p ∈ fp, G p = none
theorem Slots.grow {K : PySem.W.Frag} {G H G' H' : Hp} {σ : St} {ρ : Env} (g : Grow G H G' H') (s : Slots K G H σ ρ) : Slots K G' H' σ ρ := And.intro s.1 fun i t e => by
  obtain ⟨v, fp, a, b, c⟩ := s.2 i t e
  exact ⟨v, fp, a, b.grow g, fun p hp => by obtain ⟨o, q⟩ := Own.dom t v fp b p hp; exact g.n p o q (c p hp)⟩

section
variable {α β : Type}
def Post (K : PySem.W.Frag) (W : WX) (G H : Hp) (σ : St) (ok : α → Prop) : Option (EO α) → Prop
  | none => False
  | some (.exc x) => ∀ d G' H', Grow G H G' H' → ExcAt K G' H' x d → W x.cls d σ H'
  | some (.ok a) => ok a
def bindE (f : Option (EO α)) (g : α → Option (EO β)) : Option (EO β) :=
  match f with
  | none => none
  | some (.exc x) => some (.exc x)
  | some (.ok a) => g a
@[simp] theorem bindE_ok (a : α) (g : α → Option (EO β)) : bindE (some (.ok a)) g = g a := rfl
@[simp] theorem bindE_exc (x : Exn) (g : α → Option (EO β)) : bindE (some (.exc x)) g = some (.exc x) := rfl
@[simp] theorem bindE_none (g : α → Option (EO β)) : bindE none g = none := rfl
/-- a plain partial answer -/
def liftO (o : Option α) : Option (EO α) := o.map EO.ok
@[simp] theorem liftO_some (a : α) : liftO (some a) = some (.ok a) := rfl
@[simp] theorem liftO_none : liftO (none : Option α) = none := rfl
variable {K : PySem.W.Frag} {W : WX} {G H G1 H1 : Hp} {σ : St}
theorem Post.bind {ok : β → Prop} {f : Option (EO α)} {g : α → Option (EO β)} (h : Post K W G H σ ok (bindE f g)) : Post K W G H σ (fun a => Post K W G H σ ok (g a)) f := by
  cases f with
  | none => exact h
  | some o => cases o <;> exact h
theorem Post.imp {ok ok' : α → Prop} {f : Option (EO α)} (h : Post K W G H σ ok f) (k : ∀ a, ok a → ok' a) : Post K W G H σ ok' f := by
  cases f with
  | none => exact h
  | some o =>
    cases o with
    | ok a => exact k a h
    | exc x => exact h
theorem Post.grow {ok : α → Prop} {f : Option (EO α)} (h : Post K W G H σ ok f) (g : Grow G H G1 H1) : Post K W G1 H1 σ ok f := by
  cases f with
  | none => exact h
  | some o =>
    cases o with
    | ok a => exact h
    | exc x => exact fun d G' H' g' e => h d G' H' (g.trans g') e
theorem Post.lift {ok : α → Prop} {o : Option α} (h : Post K W G H σ ok (liftO o)) : ∃ a, o = some a ∧ ok a := by
  cases o with
  | none => exact h.elim
  | some a => exact ⟨a, rfl, h⟩
end

abbrev OkE (K : PySem.W.Frag) (fr : Bool) (G H : Hp) (Q : VK) (t : T) : Prop := ∀ v G' H' fp, Grow G H G' H' → Own K G' H' t v fp → Clean fr H G' fp → Q v H'
abbrev OkA (K : PySem.W.Frag) (fr : Bool) (G H : Hp) (Q : List V → Hp → Prop) (ts : List T) : Prop := ∀ vs G' H' fp, Grow G H G' H' → OwnL K G' H' ts vs fp → Clean fr H G' fp → Q vs H'
abbrev OkB (G H : Hp) (Q : Bool → Hp → Prop) (b : Bool) : Prop := ∀ G' H', Grow G H G' H' → Q b H'
abbrev FE := Env → Option (EO T)
abbrev FA := Env → Option (EO (List T))
abbrev FB := Env → Option (EO Bool)
def EOK (fr : Bool) (K : PySem.W.Frag) (W : WX) (te : TE) (f : FE) : Prop := ∀ ρ G H σ Q, Same G H → Slots K G H σ ρ → Post K W G H σ (OkE K fr G H Q) (f ρ) → te σ H Q
def AOK (fr : Bool) (K : PySem.W.Frag) (W : WX) (ta : TA) (f : FA) : Prop := ∀ ρ G H σ Q, Same G H → Slots K G H σ ρ → Post K W G H σ (OkA K fr G H Q) (f ρ) → ta σ H Q
def TOK (K : PySem.W.Frag) (W : WX) (tt : TT) (f : FB) : Prop := ∀ ρ G H σ Q, Same G H → Slots K G H σ ρ → Post K W G H σ (OkB G H Q) (f ρ) → tt σ H Q
/-- an expression is worth f: fresh (fr) or read only -/
def DE (fr : Bool) (X : Cx) (W : WX) (e : Expr) (f : FE) : Prop := ∃ te, PE X e te ∧ EOK fr X.K W te f
def DA (fr : Bool) (X : Cx) (W : WX) (es : List Expr) (f : FA) : Prop := ∃ ta, PA X es ta ∧ AOK fr X.K W ta f
def DT (X : Cx) (W : WX) (e : Expr) (f : FB) : Prop := ∃ tt, PT X e tt ∧ TOK X.K W tt f
def DW (X : Cx) (W : WX) (e : Expr) (f : FB) : Prop := ∃ tt, PW X e tt ∧ TOK X.K W tt f
theorem EOK.weak {fr : Bool} {K : PySem.W.Frag} {W : WX} {te : TE} {f : FE} (h : EOK true K W te f) : EOK fr K W te f := fun ρ G H σ Q s sl p =>
  h ρ G H σ Q s sl (p.imp fun t k v G' H' fp g o c => k v G' H' fp g o c.weak)
theorem DE.weak {fr : Bool} {X : Cx} {W : WX} {e : Expr} {f : FE} (h : DE true X W e f) : DE fr X W e f := ⟨_, h.choose_spec.1, h.choose_spec.2.weak⟩
/-- the same function, otherwise written -/
theorem DE.eq {fr : Bool} {X : Cx} {W : WX} {e : Expr} {f g : FE} (h : DE fr X W e f) (q : f = g) : DE fr X W e g := q ▸ h

section
variable {X : Cx} {W : WX} {fr fr' : Bool} {e a b : Expr} {es : List Expr} {pos : Pos} {fa fb : FE}

/-! ### names, constants -/
def rdVar (i : Nat) : FE := fun ρ => match ρ[i]? with | some (some t) => some (.ok t) | _ => none
def shOnly : T → Option (EO T)
  | .sh d => some (.ok (.sh d))
  | _ => none
theorem eok_var {K : PySem.W.Frag} (i : Nat) : EOK false K W (tVar i) (rdVar i) := by
  intro ρ G H σ Q s sl h
  unfold rdVar at h
  cases q : ρ[i]? with
  | none => rw [q] at h; exact h.elim
  | some o =>
    rw [q] at h
    cases o with
    | none => exact h.elim
    | some t =>
      obtain ⟨v, fp, e, o, c⟩ := sl.2 i t q
      exact ⟨v, e, h v G H fp (Grow.refl s) o ⟨c, fun z => Bool.noConfusion z⟩⟩
/-- a name, to be read -/
theorem dr_var (i : Nat) {x : Str} (hN : X.N[i]? = some x := by rfl) (hv : Vis X.env.scope x := by first | exact Or.inl rfl | exact Or.inr (Or.inl rfl) | exact Or.inr (Or.inr rfl)) (hd : (x == ("__debug__" : Str)) = false := by decide)
    (hcd : (x == ("__classdict__" : Str)) = false := by decide) : DE false X W (.Name x pos) (rdVar i) := ⟨_, pv i hN hv hd hcd, eok_var i⟩
/-- shared data stay what they are: a read value that is shared is as good as a fresh one -/
theorem DE.sh (h : DE false X W e fa) : DE true X W e (fun ρ => bindE (fa ρ) shOnly) := by
  obtain ⟨te, p, k⟩ := h
  refine ⟨te, p, fun ρ G H σ Q s sl h => k ρ G H σ Q s sl (h.bind.imp fun t ht v G' H' fp g o c => ?_)⟩
  cases t with
  | sh d =>
    have e := o
    simp only [Own] at e
    rw [e.1] at o
    exact ht v G' H' [] g o .nil
  | _ => exact ht.elim
/-- a name's shared value -/
theorem de_var (i : Nat) {x : Str} (hN : X.N[i]? = some x := by rfl) (hv : Vis X.env.scope x := by first | exact Or.inl rfl | exact Or.inr (Or.inl rfl) | exact Or.inr (Or.inr rfl)) (hd : (x == ("__debug__" : Str)) = false := by decide)
    (hcd : (x == ("__classdict__" : Str)) = false := by decide) : DE true X W (.Name x pos) (fun ρ => bindE (rdVar i ρ) shOnly) := (dr_var i hN hv hd hcd).sh
def cst (d : D) : FE := fun _ => some (.ok (.sh d))
def scV : V → Option D
  | .non => some .non | .bl b => some (.bl b) | .int i => some (.int i) | .str x => some (.str x) | .ref a => some (.ref a) | _ => none
theorem rep_sc {K : PySem.W.Frag} {G : Hp} {v : V} {d : D} (h : scV v = some d) : Rep K G d v := by
  cases v <;> simp [scV] at h <;> subst h <;> simp [Rep]
theorem eok_c {K : PySem.W.Frag} {v : V} {d : D} (hd : scV v = some d) : EOK true K W (tC v) (cst d) := by
  intro ρ G H σ Q s sl h
  exact h v G H [] (Grow.refl s) (by simp only [Own]; exact ⟨trivial, rep_sc hd⟩) .nil
theorem de_int {i j} : DE true X W (.Constant (.int i) j pos) (cst (.int i)) := ⟨_, pe_int, eok_c rfl⟩
theorem de_str {x j} : DE true X W (.Constant (.str x) j pos) (cst (.str x)) := ⟨_, pe_str, eok_c rfl⟩
theorem de_bl {x j} : DE true X W (.Constant (.bool x) j pos) (cst (.bl x)) := ⟨_, pe_bl, eok_c rfl⟩
theorem de_non {j} : DE true X W (.Constant .none j pos) (cst .non) := ⟨_, pe_non, eok_c rfl⟩
theorem de_glob {x : Str} {v : V} {d : D} {u : Value} (hg : Gl X x) (hm : X.mg x = some u) (r : RelV v u) (hd : scV v = some d) (hb : (x == ("__debug__" : Str)) = false := by decide) : DE true X W (.Name x pos) (cst d) :=
  ⟨_, pe_glob hg hm r hb, eok_c hd⟩

/-! ### arguments -/
def consA (f : FE) (g : FA) : FA := fun ρ => bindE (f ρ) fun t => bindE (g ρ) fun ts => some (.ok (t :: ts))
def nilA : FA := fun _ => some (.ok [])
theorem da_nil : DA fr X W [] nilA := ⟨_, pa_nil, fun ρ G H σ Q s sl h => h [] G H [] (Grow.refl s) (by simp [OwnL]) .nil⟩
theorem Clean.append {G1 H1 G2 H2 G H : Hp} {f g : List Addr} (c : Clean fr H G1 f) (dom : ∀ p ∈ f, ∃ o, H1 p = some o) (gr : Grow G H G1 H1) (g2 : Grow G1 H1 G2 H2) (d : Clean fr H1 G2 g) : Clean fr H G2 (f ++ g) := by
  refine And.intro (fun p hp => ?_) (fun hf => ?_)
  · rcases List.mem_append.mp hp with hp | hp
    · obtain ⟨o, e⟩ := dom p hp
      exact g2.n p o e (c.1 p hp)
    · exact d.1 p hp
  · obtain ⟨n1, f1⟩ := c.2 hf
    obtain ⟨n2, f2⟩ := d.2 hf
    refine ⟨List.nodup_append.mpr ⟨n1, n2, fun x hx y hy e => ?_⟩, fun p hp => ?_⟩
    · subst e
      obtain ⟨o, e⟩ := dom x hx
      rw [f2 x hy] at e; cases e
    · rcases List.mem_append.mp hp with hp | hp
      · exact f1 p hp
      · have := f2 p hp
        cases q : H p with
        | none => rfl
        | some o => rw [gr.h p o q] at this; cases this
theorem da_cons {f : FE} {g : FA} (h1 : DE fr X W e f) (h2 : DA fr X W es g) (hs : starEach (e :: es) X.env = (false, eval e X.env) :: starEach es X.env := by rfl) : DA fr X W (e :: es) (consA f g) := by
  obtain ⟨te, p1, k1⟩ := h1
  obtain ⟨ta, p2, k2⟩ := h2
  refine ⟨_, pa_cons p1 p2 hs, fun ρ G H σ Q s sl h => ?_⟩
  refine k1 ρ G H σ _ s sl (h.bind.imp fun t ht v G1 H1 f1 g1 o1 c1 => ?_)
  refine k2 ρ G1 H1 σ _ g1.gh (sl.grow g1) ((ht.bind.grow g1).imp fun ts hts vs G2 H2 f2 g2 o2 c2 => ?_)
  refine hts (v :: vs) G2 H2 (f1 ++ f2) (g1.trans g2) ?_ (c1.append (Own.dom _ _ _ o1) g1 g2 c2)
  simp only [OwnL]
  exact ⟨v, vs, f1, f2, rfl, rfl, o1.grow g2, o2⟩

/-! ### operators by values -/
def OpD (K : PySem.W.Frag) (r : R2) (g : T → T → Option T) : Prop := ∀ t1 t2 t v1 v2 f1 f2 G H Q, g t1 t2 = some t → Same G H → Own K G H t1 v1 f1 → Own K G H t2 v2 f2 → OkE K true G H Q t → r v1 v2 H Q
/-- a reading operator: its answer may be a part of what is read -/
def OpP (K : PySem.W.Frag) (r : R2) (g : T → T → Option T) : Prop := ∀ t1 t2 t v1 v2 f1 f2 G H Q, g t1 t2 = some t → Same G H → Own K G H t1 v1 f1 → Own K G H t2 v2 f2 → (∀ p ∈ f1, G p = none) → OkE K false G H Q t → r v1 v2 H Q
def UnD (K : PySem.W.Frag) (r : V → Hp → VK → Prop) (g : T → Option T) : Prop := ∀ t1 t v1 f1 G H Q, g t1 = some t → Same G H → Own K G H t1 v1 f1 → OkE K true G H Q t → r v1 H Q
def CallD (K : PySem.W.Frag) (r : List V → Hp → VK → Prop) (g : List T → Option T) : Prop := ∀ ts t vs fp G H Q, g ts = some t → Same G H → OwnL K G H ts vs fp → OkE K true G H Q t → r vs H Q
def op2 (g : T → T → Option T) (fa fb : FE) : FE := fun ρ => bindE (fa ρ) fun t => bindE (fb ρ) fun u => liftO (g t u)
def op1 (g : T → Option T) (fa : FE) : FE := fun ρ => bindE (fa ρ) fun t => liftO (g t)
def opA (g : List T → Option T) (fa : FA) : FE := fun ρ => bindE (fa ρ) fun t => liftO (g t)
theorem eok_op {K : PySem.W.Frag} {r : R2} {g : T → T → Option T} {ta tb : TE} (ho : OpD K r g) (ha : EOK fr K W ta fa) (hb : EOK fr' K W tb fb) : EOK true K W (tOp r ta tb) (op2 g fa fb) := by
  intro ρ G H σ Q s sl h
  refine ha ρ G H σ _ s sl (h.bind.imp fun t ht v G1 H1 f1 g1 o1 c1 => ?_)
  refine hb ρ G1 H1 σ _ g1.gh (sl.grow g1) ((ht.bind.grow g1).imp fun u hu w G2 H2 f2 g2 o2 c2 => ?_)
  obtain ⟨z, e, k⟩ := hu.lift
  refine ho t u z v w f1 f2 G2 H2 Q e g2.gh (o1.grow g2) o2 fun x G3 H3 f3 g3 o3 c3 => k x G3 H3 f3 ((g1.trans g2).trans g3) o3 ?_
  exact And.intro c3.1 fun _ => ⟨(c3.2 rfl).1, fun p hp => (g1.trans g2).h.free ((c3.2 rfl).2 p hp)⟩
theorem eok_opP {K : PySem.W.Frag} {r : R2} {g : T → T → Option T} {ta tb : TE} (ho : OpP K r g) (ha : EOK fr K W ta fa) (hb : EOK fr' K W tb fb) : EOK false K W (tOp r ta tb) (op2 g fa fb) := by
  intro ρ G H σ Q s sl h
  refine ha ρ G H σ _ s sl (h.bind.imp fun t ht v G1 H1 f1 g1 o1 c1 => ?_)
  refine hb ρ G1 H1 σ _ g1.gh (sl.grow g1) ((ht.bind.grow g1).imp fun u hu w G2 H2 f2 g2 o2 c2 => ?_)
  obtain ⟨z, e, k⟩ := hu.lift
  refine ho t u z v w f1 f2 G2 H2 Q e g2.gh (o1.grow g2) o2 (fun p hp => ?_) fun x G3 H3 f3 g3 o3 c3 => k x G3 H3 f3 ((g1.trans g2).trans g3) o3 ⟨c3.1, fun z => Bool.noConfusion z⟩
  obtain ⟨o, q⟩ := Own.dom _ _ _ o1 p hp
  exact g2.n p o q (c1.1 p hp)
theorem de_op {op : Operator} {r : R2} {g : T → T → Option T} (ho : OpR X (binaryOp op) r) (hd : OpD X.K r g) (ha : DE fr X W a fa) (hb : DE fr' X W b fb) : DE true X W (.BinOp a op b pos) (op2 g fa fb) := by
  obtain ⟨ta, p1, k1⟩ := ha
  obtain ⟨tb, p2, k2⟩ := hb
  exact ⟨_, pe_op ho p1 p2, eok_op hd k1 k2⟩
theorem de_cmp {op : CmpOp} {r : R2} {g : T → T → Option T} (ho : OpR X (compareOp op) r) (hd : OpD X.K r g) (ha : DE fr X W a fa) (hb : DE fr' X W b fb) (hm : behindInMarks op b = false) : DE true X W (.Compare a [op] [b] pos) (op2 g fa fb) := by
  obtain ⟨ta, p1, k1⟩ := ha
  obtain ⟨tb, p2, k2⟩ := hb
  exact ⟨_, pe_cmpR ho p1 p2 hm, eok_op hd k1 k2⟩
theorem de_un {op : UnaryOp} {r : V → Hp → VK → Prop} {g : T → Option T} (ho : UnR X (unaryOp op) r) (hd : UnD X.K r g) (ha : DE fr X W a fa) : DE true X W (.UnaryOp op a pos) (op1 g fa) := by
  obtain ⟨ta, p1, k1⟩ := ha
  refine ⟨_, pe_un ho p1, fun ρ G H σ Q s sl h => ?_⟩
  refine k1 ρ G H σ _ s sl (h.bind.imp fun t ht v G1 H1 f1 g1 o1 c1 => ?_)
  obtain ⟨z, e, k⟩ := ht.lift
  refine hd t z v f1 G1 H1 Q e g1.gh o1 fun x G3 H3 f3 g3 o3 c3 => k x G3 H3 f3 (g1.trans g3) o3 ?_
  exact And.intro c3.1 fun _ => ⟨(c3.2 rfl).1, fun p hp => g1.h.free ((c3.2 rfl).2 p hp)⟩
theorem eok_callB {K : PySem.W.Frag} {r : List V → Hp → VK → Prop} {g : List T → Option T} {ta : TA} {f : FA} (ho : CallD K r g) (ha : AOK fr K W ta f) : EOK true K W (tCB r ta) (opA g f) := by
  intro ρ G H σ Q s sl h
  refine ha ρ G H σ _ s sl (h.bind.imp fun t ht v G1 H1 f1 g1 o1 c1 => ?_)
  obtain ⟨z, e, k⟩ := ht.lift
  refine ho t z v f1 G1 H1 Q e g1.gh o1 fun x G3 H3 f3 g3 o3 c3 => k x G3 H3 f3 (g1.trans g3) o3 ?_
  exact And.intro c3.1 fun _ => ⟨(c3.2 rfl).1, fun p hp => g1.h.free ((c3.2 rfl).2 p hp)⟩
theorem de_callB {x : Str} {p : Pos} {id : String} {r : List V → Hp → VK → Prop} {g : List T → Option T} {f : FA} (hc : CallR X (.builtin id) r) (hd : CallD X.K r g) (hg : Gl X x) (hm : X.mg x = none) (hv : bootBuiltins x = some (.builtin id)) (ha : DA fr X W (e :: es) f)
    (hn : x ≠ "__name__" := by decide) (hdb : (x == ("__debug__" : Str)) = false := by decide) (he : starEach (e :: es) X.env = (false, eval e X.env) :: starEach es X.env := by rfl) (hpl : (backTo pos (starEach es X.env)).any (·.1) = false := by rfl) :
    DE true X W (.Call (.Name x p) (e :: es) [] pos) (opA g f) := by
  obtain ⟨ta, p1, k1⟩ := ha
  exact ⟨_, pe_callB hc hg hm hv p1 hn hdb he hpl, eok_callB hd k1⟩
theorem de_callTy {x : Str} {p : Pos} {id : String} {r : List V → Hp → VK → Prop} {g : List T → Option T} {f : FA} (hc : CallR X (.type id) r) (hd : CallD X.K r g) (hg : Gl X x) (hm : X.mg x = none) (hv : bootBuiltins x = some (.type id)) (ha : DA fr X W (e :: es) f)
    (hn : x ≠ "__name__" := by decide) (hdb : (x == ("__debug__" : Str)) = false := by decide) (he : starEach (e :: es) X.env = (false, eval e X.env) :: starEach es X.env := by rfl) (hpl : (backTo pos (starEach es X.env)).any (·.1) = false := by rfl) :
    DE true X W (.Call (.Name x p) (e :: es) [] pos) (opA g f) := by
  obtain ⟨ta, p1, k1⟩ := ha
  exact ⟨_, pe_callTy hc hg hm hv p1 hn hdb he hpl, eok_callB hd k1⟩

/-! ### subscripts -/
theorem dr_ix {r : R2} {g : T → T → Option T} (ho : IxR X r) (hd : OpP X.K r g) (hs : PlainIx b) (ha : DE fr X W a fa) (hb : DE fr' X W b fb) : DE false X W (.Subscript a b pos) (op2 g fa fb) := by
  obtain ⟨ta, p1, k1⟩ := ha
  obtain ⟨tb, p2, k2⟩ := hb
  exact ⟨_, pe_ix ho p1 p2 hs, eok_opP hd k1 k2⟩

/-! ### tuples, lists -/
theorem Clean.cons {G H : Hp} {p : Addr} {H1 : Hp} {f : List Addr} (c : Clean true H G f) (h1 : H p = none) (h2 : G p = none) (h3 : p ∉ f) : Clean true H G (p :: f) :=
  And.intro (fun q hq => by rcases List.mem_cons.mp hq with rfl | hq; exact h2; exact c.1 q hq) fun _ =>
    ⟨List.nodup_cons.mpr ⟨h3, (c.2 rfl).1⟩, fun q hq => by rcases List.mem_cons.mp hq with rfl | hq; exact h1; exact (c.2 rfl).2 q hq⟩
def tupT (ts : List T) : Option T := if ts.length ≤ sizeLine then some (.tup ts) else none
def lstT (ts : List T) : Option T := if ts.length ≤ sizeLine then some (.lst ts) else none
theorem Same.none_of {G H : Hp} (s : Same G H) {p : Addr} (h : H p = none) : G p = none := s.free h
theorem de_tup {k : Nat} {f : FA} (ha : DA true X W es f) : DE true X W (.Tuple es k pos) (opA tupT f) := by
  obtain ⟨ta, p1, k1⟩ := ha
  refine ⟨_, pe_tup p1, fun ρ G H σ Q s sl h => ?_⟩
  refine k1 ρ G H σ _ s sl (h.bind.imp fun ts ht vs G1 H1 f1 g1 o1 c1 => ?_)
  obtain ⟨z, e, k⟩ := ht.lift
  unfold tupT at e
  by_cases hl : ts.length ≤ sizeLine
  · rw [if_pos hl] at e
    cases e
    refine ⟨by rw [OwnL.length _ _ _ o1]; exact hl, fun p hp => ?_⟩
    have pf : p ∉ f1 := fun hq => by obtain ⟨o, q⟩ := OwnL.dom _ _ _ o1 p hq; rw [hp] at q; cases q
    refine k (.ref p) G1 _ (p :: f1) (g1.trans (Grow.alloc g1.gh hp)) ?_ (c1.cons (H1 := H1) (g1.h.free hp) (g1.gh.free hp) pf)
    simp only [Own]
    exact ⟨p, vs, f1, rfl, rfl, upd_same, o1.grow (Grow.alloc g1.gh hp)⟩
  · rw [if_neg hl] at e; cases e
theorem de_lst {f : FA} (ha : DA true X W es f) : DE true X W (.List es pos) (opA lstT f) := by
  obtain ⟨ta, p1, k1⟩ := ha
  refine ⟨_, pe_lst p1, fun ρ G H σ Q s sl h => ?_⟩
  refine k1 ρ G H σ _ s sl (h.bind.imp fun ts ht vs G1 H1 f1 g1 o1 c1 => ?_)
  obtain ⟨z, e, k⟩ := ht.lift
  unfold lstT at e
  by_cases hl : ts.length ≤ sizeLine
  · rw [if_pos hl] at e
    cases e
    refine ⟨by rw [OwnL.length _ _ _ o1]; exact hl, fun p hp => ?_⟩
    have pf : p ∉ f1 := fun hq => by obtain ⟨o, q⟩ := OwnL.dom _ _ _ o1 p hq; rw [hp] at q; cases q
    refine k (.ref p) G1 _ (p :: f1) (g1.trans (Grow.alloc g1.gh hp)) ?_ (c1.cons (H1 := H1) (g1.h.free hp) (g1.gh.free hp) pf)
    simp only [Own]
    exact ⟨p, vs, f1, rfl, rfl, upd_same, o1.grow (Grow.alloc g1.gh hp)⟩
  · rw [if_neg hl] at e; cases e

/-! ### tests -/
def boolT : T → Option Bool
  | .sh (.bl b) => some b
  | _ => none
def toB (f : FE) : FB := fun ρ => bindE (f ρ) fun t => liftO (boolT t)
theorem eok_test {K : PySem.W.Frag} {te : TE} (ha : EOK fr K W te fa) : TOK K W (tTest te) (toB fa) := by
  intro ρ G H σ Q s sl h
  refine ha ρ G H σ _ s sl (h.bind.imp fun t ht v G1 H1 f1 g1 o1 c1 => ?_)
  obtain ⟨z, e, k⟩ := ht.lift
  cases t with
  | sh d =>
    cases d with
    | bl b =>
      simp only [boolT, Option.some.injEq] at e
      subst e
      simp only [Own, Rep] at o1
      exact ⟨b, o1.2, k G1 H1 g1⟩
    | _ => simp [boolT] at e
  | _ => simp [boolT] at e
theorem dt_cmp {op : CmpOp} {r : R2} {g : T → T → Option T} (ho : OpR X (compareOp op) r) (hd : OpD X.K r g) (ha : DE fr X W a fa) (hb : DE fr' X W b fb) (hm : behindInMarks op b = false) : DT X W (.Compare a [op] [b] pos) (toB (op2 g fa fb)) := by
  obtain ⟨ta, p1, k1⟩ := ha
  obtain ⟨tb, p2, k2⟩ := hb
  exact ⟨_, pt_cmpR ho p1 p2 hm, eok_test (eok_op hd k1 k2)⟩
theorem dt_val (h : DE fr X W e fa) (he : ∀ whole, isTrue e X.env whole = (do let v ← whole; standAt e.pos; holding [v] (truthy v)) := by intro _; rfl) : DT X W e (toB fa) := by
  obtain ⟨ta, p1, k1⟩ := h
  exact ⟨_, pt_val p1 he, eok_test k1⟩
def andB (f g : FB) : FB := fun ρ => bindE (f ρ) fun b => if b then g ρ else some (.ok false)
def orB (f g : FB) : FB := fun ρ => bindE (f ρ) fun b => if b then some (.ok true) else g ρ
def notB (f : FB) : FB := fun ρ => bindE (f ρ) fun b => some (.ok (!b))
variable {f g : FB} {rest : List Expr}
theorem DW.pt (h : DW X W e f) : DT X W e f := by obtain ⟨t, p, k⟩ := h; exact ⟨t, p.pt, k⟩
theorem dw_and1 (h : DT X W a f) : DW X W (.BoolOp .And [a] pos) f := by obtain ⟨t, p, k⟩ := h; exact ⟨t, pw_and1 p, k⟩
theorem dw_or1 (h : DT X W a f) : DW X W (.BoolOp .Or [a] pos) f := by obtain ⟨t, p, k⟩ := h; exact ⟨t, pw_or1 p, k⟩
theorem dw_and (h1 : DT X W a f) (h2 : DW X W (.BoolOp .And (b :: rest) pos) g) : DW X W (.BoolOp .And (a :: b :: rest) pos) (andB f g) := by
  obtain ⟨t, p1, k1⟩ := h1
  obtain ⟨u, p2, k2⟩ := h2
  refine ⟨_, pw_and p1 p2, fun ρ G H σ Q s sl h => ?_⟩
  refine k1 ρ G H σ _ s sl (h.bind.imp fun c hc G1 H1 g1 => ?_)
  cases c with
  | true => exact k2 ρ G1 H1 σ _ g1.gh (sl.grow g1) ((Post.grow hc g1).imp fun b hb G2 H2 g2 => hb G2 H2 (g1.trans g2))
  | false => exact hc G1 H1 g1
theorem dw_or (h1 : DT X W a f) (h2 : DW X W (.BoolOp .Or (b :: rest) pos) g) : DW X W (.BoolOp .Or (a :: b :: rest) pos) (orB f g) := by
  obtain ⟨t, p1, k1⟩ := h1
  obtain ⟨u, p2, k2⟩ := h2
  refine ⟨_, pw_or p1 p2, fun ρ G H σ Q s sl h => ?_⟩
  refine k1 ρ G H σ _ s sl (h.bind.imp fun c hc G1 H1 g1 => ?_)
  cases c with
  | false => exact k2 ρ G1 H1 σ _ g1.gh (sl.grow g1) ((Post.grow hc g1).imp fun b hb G2 H2 g2 => hb G2 H2 (g1.trans g2))
  | true => exact hc G1 H1 g1
theorem dt_not (h1 : DT X W a f) : DT X W (.UnaryOp .Not a pos) (notB f) := by
  obtain ⟨t, p1, k1⟩ := h1
  refine ⟨_, pt_not p1, fun ρ G H σ Q s sl h => ?_⟩
  exact k1 ρ G H σ _ s sl (h.bind.imp fun c hc G1 H1 g1 => hc G1 H1 g1)
/-- as values, where the parts are bools -/
def andV (fa fb : FE) : FE := fun ρ => bindE (fa ρ) fun t => bindE (liftO (boolT t)) fun b => if b then fb ρ else some (.ok (.sh (.bl false)))
def orV (fa fb : FE) : FE := fun ρ => bindE (fa ρ) fun t => bindE (liftO (boolT t)) fun b => if b then some (.ok (.sh (.bl true))) else fb ρ
def notV (fa : FE) : FE := fun ρ => bindE (fa ρ) fun t => bindE (liftO (boolT t)) fun b => some (.ok (.sh (.bl !b)))
theorem boolT_own {K : PySem.W.Frag} {G H : Hp} {t : T} {b : Bool} {v : V} {fp : List Addr} (e : boolT t = some b) (o : Own K G H t v fp) : v = .bl b := by
  cases t with
  | sh d =>
    cases d with
    | bl c =>
      simp only [boolT, Option.some.injEq] at e
      subst e
      simp only [Own, Rep] at o
      exact o.2
    | _ => simp [boolT] at e
  | _ => simp [boolT] at e
theorem de_one {op} (h : DE fr X W a fa) : DE fr X W (.BoolOp op [a] pos) fa := by
  obtain ⟨t, p, k⟩ := h; exact ⟨t, pe_one p, k⟩
theorem OkE.back {K : PySem.W.Frag} {G H G1 H1 : Hp} {Q : VK} {t : T} (g1 : Grow G H G1 H1) (h : OkE K fr G H Q t) : OkE K fr G1 H1 Q t := fun x G3 H3 f3 g3 o3 c3 =>
  h x G3 H3 f3 (g1.trans g3) o3 (And.intro c3.1 fun z => ⟨(c3.2 z).1, fun p hp => g1.h.free ((c3.2 z).2 p hp)⟩)
theorem de_and (h1 : DE fr X W a fa) (h2 : DE fr' X W (.BoolOp .And (b :: rest) pos) fb) : DE fr' X W (.BoolOp .And (a :: b :: rest) pos) (andV fa fb) := by
  obtain ⟨t, p1, k1⟩ := h1
  obtain ⟨u, p2, k2⟩ := h2
  refine ⟨_, pe_and p1 p2, fun ρ G H σ Q s sl h => ?_⟩
  refine k1 ρ G H σ _ s sl (h.bind.imp fun c hc v G1 H1 f1 g1 o1 c1 => ?_)
  obtain ⟨z, e, k⟩ := hc.bind.lift
  refine ⟨z, boolT_own e o1, ?_⟩
  cases z with
  | true => exact k2 ρ G1 H1 σ _ g1.gh (sl.grow g1) ((Post.grow k g1).imp fun b hb => OkE.back g1 hb)
  | false => exact k (.bl false) G1 H1 [] g1 (by simp [Own, Rep]) .nil
theorem de_or (h1 : DE fr X W a fa) (h2 : DE fr' X W (.BoolOp .Or (b :: rest) pos) fb) : DE fr' X W (.BoolOp .Or (a :: b :: rest) pos) (orV fa fb) := by
  obtain ⟨t, p1, k1⟩ := h1
  obtain ⟨u, p2, k2⟩ := h2
  refine ⟨_, pe_or p1 p2, fun ρ G H σ Q s sl h => ?_⟩
  refine k1 ρ G H σ _ s sl (h.bind.imp fun c hc v G1 H1 f1 g1 o1 c1 => ?_)
  obtain ⟨z, e, k⟩ := hc.bind.lift
  refine ⟨z, boolT_own e o1, ?_⟩
  cases z with
  | false => exact k2 ρ G1 H1 σ _ g1.gh (sl.grow g1) ((Post.grow k g1).imp fun b hb => OkE.back g1 hb)
  | true => exact k (.bl true) G1 H1 [] g1 (by simp [Own, Rep]) .nil
theorem de_not (h1 : DE fr X W a fa) : DE true X W (.UnaryOp .Not a pos) (notV fa) := by
  obtain ⟨t, p1, k1⟩ := h1
  refine ⟨_, pe_not p1, fun ρ G H σ Q s sl h => ?_⟩
  refine k1 ρ G H σ _ s sl (h.bind.imp fun c hc v G1 H1 f1 g1 o1 c1 => ?_)
  obtain ⟨z, e, k⟩ := hc.bind.lift
  exact ⟨z, boolT_own e o1, k (.bl !z) G1 H1 [] g1 (by simp [Own, Rep]) .nil⟩
def ifV (c : FB) (fa fb : FE) : FE := fun ρ => bindE (c ρ) fun b => if b then fa ρ else fb ρ
theorem de_ifExp {c : Expr} (hc : DT X W c f) (ha : DE fr X W a fa) (hb : DE fr X W b fb) : DE fr X W (.IfExp c a b pos) (ifV f fa fb) := by
  obtain ⟨t, p1, k1⟩ := hc
  obtain ⟨u, p2, k2⟩ := ha
  obtain ⟨u', p3, k3⟩ := hb
  refine ⟨_, pe_ifExp p1 p2 p3, fun ρ G H σ Q s sl h => ?_⟩
  refine k1 ρ G H σ _ s sl (h.bind.imp fun c hc G1 H1 g1 => ?_)
  cases c with
  | true => exact k2 ρ G1 H1 σ _ g1.gh (sl.grow g1) ((Post.grow hc g1).imp fun b hb => OkE.back g1 hb)
  | false => exact k3 ρ G1 H1 σ _ g1.gh (sl.grow g1) ((Post.grow hc g1).imp fun b hb => OkE.back g1 hb)
end
end DV

namespace DV
open PySem PySem.Spec PyProof.Rows L2

/-! ## the state of a body -/
/-- fixed at a def's entry: what is frozen, the heap, what is lent -/
structure Act where
  G0 : Hp
  H0 : Hp
  fp0 : List Addr
def SlotD (K : PySem.W.Frag) (G H : Hp) (s : Option V) (r : Option T) (fp : List Addr) : Prop :=
  match r with
  | none => fp = []
  | some t => ∃ v, s = some v ∧ Own K G H t v fp
def SlotsD (K : PySem.W.Frag) (G H : Hp) : St → Env → List Addr → Prop
  | [], [], fp => fp = []
  | s :: σ, r :: ρ, fp => ∃ f g, fp = f ++ g ∧ SlotD K G H s r f ∧ SlotsD K G H σ ρ g
  | _, _, _ => False
section
variable {K : PySem.W.Frag} {G H G2 H2 : Hp}
theorem SlotD.mono {s : Option V} {r : Option T} {fp : List Addr} (sg : Same G G2) (k : ∀ p ∈ fp, H2 p = H p) (h : SlotD K G H s r fp) : SlotD K G2 H2 s r fp := by
  cases r with
  | none => exact h
  | some t =>
    obtain ⟨v, e, o⟩ := h
    exact ⟨v, e, Own.mono sg t v fp k o⟩
theorem SlotD.dom {s : Option V} {r : Option T} {fp : List Addr} (h : SlotD K G H s r fp) : ∀ p ∈ fp, ∃ o, H p = some o := by
  cases r with
  | none =>
    have e : fp = [] := h
    subst e
    intro p hp; cases hp
  | some t =>
    obtain ⟨v, e, o⟩ := h
    exact Own.dom t v fp o
theorem SlotsD.mono : ∀ {σ : St} {ρ : Env} {fp : List Addr}, Same G G2 → (∀ p ∈ fp, H2 p = H p) → SlotsD K G H σ ρ fp → SlotsD K G2 H2 σ ρ fp
  | [], [], fp, _, _, h => h
  | s :: σ, r :: ρ, fp, sg, k, h => by
    obtain ⟨f, g, e, a, b⟩ := h
    subst e
    exact ⟨f, g, rfl, a.mono sg fun p hp => k p (by simp [hp]), SlotsD.mono sg (fun p hp => k p (by simp [hp])) b⟩
  | [], _ :: _, _, _, _, h => h.elim
  | _ :: _, [], _, _, _, h => h.elim
theorem SlotsD.dom : ∀ {σ : St} {ρ : Env} {fp : List Addr}, SlotsD K G H σ ρ fp → ∀ p ∈ fp, ∃ o, H p = some o
  | [], [], fp, h, p, hp => by
    have e : fp = [] := h
    subst e; cases hp
  | s :: σ, r :: ρ, fp, h, p, hp => by
    obtain ⟨f, g, e, a, b⟩ := h
    subst e
    rcases List.mem_append.mp hp with hp | hp
    · exact a.dom p hp
    · exact SlotsD.dom b p hp
  | [], _ :: _, _, h, _, _ => h.elim
  | _ :: _, [], _, h, _, _ => h.elim
theorem SlotsD.len : ∀ {σ : St} {ρ : Env} {fp : List Addr}, SlotsD K G H σ ρ fp → σ.length = ρ.length
  | [], [], fp, h => rfl
  | s :: σ, r :: ρ, fp, h => by
    obtain ⟨f, g, e, a, b⟩ := h
    simp [SlotsD.len b]
  | [], _ :: _, _, h => h.elim
  | _ :: _, [], _, h => h.elim
/-- one slot apart from the others -/
theorem SlotsD.split : ∀ {σ : St} {ρ : Env} {fp : List Addr} {i : Nat}, SlotsD K G H σ ρ fp → i < ρ.length →
    ∃ s r f1 ff f2, σ[i]? = some s ∧ ρ[i]? = some r ∧ fp = f1 ++ (ff ++ f2) ∧ SlotD K G H s r ff ∧
      ∀ (G2 H2 : Hp) s2 r2 ff2, Same G G2 → (∀ p, p ∈ f1 ∨ p ∈ f2 → H2 p = H p) → SlotD K G2 H2 s2 r2 ff2 → SlotsD K G2 H2 (σ.set i s2) (ρ.set i r2) (f1 ++ (ff2 ++ f2))
  | [], [], fp, i, h, hi => by simp at hi
  | s :: σ, r :: ρ, fp, i, h, hi => by
    obtain ⟨f, g, e, a, b⟩ := h
    subst e
    cases i with
    | zero => exact ⟨s, r, [], f, g, rfl, rfl, rfl, a, fun G2 H2 s2 r2 ff2 sg k h2 => ⟨ff2, g, rfl, h2, b.mono sg fun p hp => k p (.inr hp)⟩⟩
    | succ j =>
      obtain ⟨s', r', f1, ff, f2, e1, e2, e3, h4, h5⟩ := SlotsD.split (i := j) b (by simpa using hi)
      subst e3
      refine ⟨s', r', f ++ f1, ff, f2, by simpa using e1, by simpa using e2, by simp, h4, fun G2 H2 s2 r2 ff2 sg k h2 => ?_⟩
      refine ⟨f, f1 ++ (ff2 ++ f2), by simp, a.mono sg fun p hp => k p (.inl (by simp [hp])), h5 G2 H2 s2 r2 ff2 sg (fun p hp => k p ?_) h2⟩
      rcases hp with hp | hp
      · exact .inl (by simp [hp])
      · exact .inr hp
  | [], _ :: _, _, _, h, _ => h.elim
  | _ :: _, [], _, _, h, _ => h.elim
theorem SlotsD.slots : ∀ {σ : St} {ρ : Env} {fp : List Addr}, SlotsD K G H σ ρ fp → (∀ p ∈ fp, G p = none) → Slots K G H σ ρ := fun {σ ρ fp} h c => And.intro h.len fun i t e => by
  have hi : i < ρ.length := (List.getElem?_eq_some_iff.mp e).1
  obtain ⟨s, r, f1, ff, f2, e1, e2, e3, h4, _⟩ := h.split hi
  rw [e] at e2; cases e2
  obtain ⟨v, rfl, o⟩ := h4
  exact ⟨v, ff, e1, o, fun p hp => c p (by rw [e3]; simp [hp])⟩
end

/-- beside the frame: owned values v (a value that is being handed on) -/
structure SttV (K : PySem.W.Frag) (A : Act) (G H : Hp) (σ : St) (ρ : Env) (ts : List T) (vs : List V) : Prop where
  gh : Same G H
  gg : Same A.G0 G
  hh : ∀ p o, A.H0 p = some o → p ∉ A.fp0 → H p = some o
  n : ∀ p o, A.H0 p = some o → p ∉ A.fp0 → A.G0 p = none → G p = none
  own : ∃ fp f, SlotsD K G H σ ρ fp ∧ OwnL K G H ts vs f ∧ (fp ++ f).Nodup ∧ ∀ p ∈ fp ++ f, G p = none ∧ (A.H0 p = none ∨ p ∈ A.fp0)
abbrev Stt (K : PySem.W.Frag) (A : Act) (G H : Hp) (σ : St) (ρ : Env) : Prop := SttV K A G H σ ρ [] []
section
variable {K : PySem.W.Frag} {A : Act} {G H G' H' : Hp} {σ : St} {ρ : Env} {t : T} {v : V} {ts : List T} {vs : List V}
theorem SttV.slots (S : SttV K A G H σ ρ ts vs) : Slots K G H σ ρ := by
  obtain ⟨fp, f, a, b, c, d⟩ := S.own
  exact a.slots fun p hp => (d p (by simp [hp])).1
theorem SttV.len (S : SttV K A G H σ ρ ts vs) : σ.length = ρ.length := by
  obtain ⟨fp, f, a, _⟩ := S.own
  exact a.len
theorem SttV.grow (S : SttV K A G H σ ρ ts vs) (g : Grow G H G' H') : SttV K A G' H' σ ρ ts vs := by
  obtain ⟨fp, f, a, b, c, d⟩ := S.own
  have hd : ∀ p ∈ fp ++ f, ∃ o, H p = some o := fun p hp => by
    rcases List.mem_append.mp hp with hp | hp
    · exact a.dom p hp
    · exact OwnL.dom _ _ _ b p hp
  have keep : ∀ p ∈ fp ++ f, H' p = H p := fun p hp => by obtain ⟨o, e⟩ := hd p hp; rw [e, g.h _ _ e]
  refine ⟨g.gh, S.gg.trans g.g, fun p o e n => g.h _ _ (S.hh p o e n), fun p o e n m => g.n p o (S.hh p o e n) (S.n p o e n m), fp, f, a.mono g.g fun p hp => keep p (by simp [hp]), b.grow g, c, fun p hp => ⟨?_, (d p hp).2⟩⟩
  obtain ⟨o, e⟩ := hd p hp
  exact g.n p o e (d p hp).1
/-- a fresh value is taken up -/
theorem SttV.take {fp0 : List Addr} (S : SttV K A G H σ ρ ts vs) (g : Grow G H G' H') (o : Own K G' H' t v fp0) (c : Clean true H G' fp0) : SttV K A G' H' σ ρ (t :: ts) (v :: vs) := by
  have S' := S.grow g
  obtain ⟨fp, f, a, b, cc, d⟩ := S.own
  have hd : ∀ p ∈ fp ++ f, ∃ o, H p = some o := fun p hp => by
    rcases List.mem_append.mp hp with hp | hp
    · exact a.dom p hp
    · exact OwnL.dom _ _ _ b p hp
  have keep : ∀ p ∈ fp ++ f, H' p = H p := fun p hp => by obtain ⟨o, e⟩ := hd p hp; rw [e, g.h _ _ e]
  have disj : ∀ p ∈ fp0, p ∉ fp ++ f := fun p hp hq => by
    obtain ⟨o, e⟩ := hd p hq
    rw [(c.2 rfl).2 p hp] at e; cases e
  refine ⟨S'.gh, S'.gg, S'.hh, S'.n, fp, fp0 ++ f, a.mono g.g fun p hp => keep p (by simp [hp]), ?_, ?_, fun p hp => ?_⟩
  · simp only [OwnL]
    exact ⟨v, vs, fp0, f, rfl, rfl, o, b.grow g⟩
  · have n0 := (c.2 rfl).1
    rw [List.nodup_append] at cc ⊢
    refine ⟨cc.1, List.nodup_append.mpr ⟨n0, cc.2.1, fun x hx y hy e => disj x hx (by rw [e]; simp [hy])⟩, fun x hx y hy e => ?_⟩
    rcases List.mem_append.mp hy with hy | hy
    · exact disj y hy (by rw [← e]; simp [hx])
    · exact cc.2.2 x hx y hy e
  · rcases List.mem_append.mp hp with hp | hp
    · obtain ⟨o', e⟩ := hd p (by simp [hp])
      exact ⟨g.n p o' e (d p (by simp [hp])).1, (d p (by simp [hp])).2⟩
    · rcases List.mem_append.mp hp with hp | hp
      · refine ⟨c.1 p hp, ?_⟩
        cases q : A.H0 p with
        | none => exact .inl rfl
        | some u =>
          refine .inr (Classical.byContradiction fun z => ?_)
          have := S.hh p u q z
          rw [(c.2 rfl).2 p hp] at this; cases this
      · obtain ⟨o', e⟩ := hd p (by simp [hp])
        exact ⟨g.n p o' e (d p (by simp [hp])).1, (d p (by simp [hp])).2⟩
/-- the value at hand is stored in slot i -/
theorem SttV.store (S : SttV K A G H σ ρ (t :: ts) (v :: vs)) (i : Nat) : SttV K A G H (σ.set i (some v)) (ρ.set i (some t)) ts vs := by
  obtain ⟨fp, f, a, b, cc, d⟩ := S.own
  by_cases hi : i < ρ.length
  · obtain ⟨s, r, f1, ff, f2, e1, e2, e3, h4, h5⟩ := a.split hi
    simp only [OwnL] at b
    obtain ⟨x, r', g1, g2, ex, eg, o, b⟩ := b
    cases ex
    subst e3 eg
    refine ⟨S.gh, S.gg, S.hh, S.n, f1 ++ (g1 ++ f2), g2, h5 G H (some v) (some t) g1 (Same.refl G) (fun _ _ => rfl) ⟨v, rfl, o⟩, b, ?_, fun p hp => d p ?_⟩
    · have : List.Perm (f1 ++ (ff ++ f2) ++ (g1 ++ g2)) (ff ++ (f1 ++ (g1 ++ f2) ++ g2)) := by
        have p1 : List.Perm (f1 ++ (ff ++ f2) ++ (g1 ++ g2)) (ff ++ (f1 ++ f2) ++ (g1 ++ g2)) := by
          refine List.Perm.append_right _ ?_
          rw [← List.append_assoc, ← List.append_assoc]
          exact List.perm_append_comm.append_right _
        refine p1.trans ?_
        rw [List.append_assoc]
        refine List.Perm.append_left _ ?_
        have p2 : List.Perm (f1 ++ f2 ++ (g1 ++ g2)) (f1 ++ (f2 ++ g1) ++ g2) := by simp
        refine p2.trans (List.Perm.append_right _ (List.Perm.append_left _ List.perm_append_comm))
      exact (List.nodup_append.mp (this.nodup_iff.mp cc)).2.1
    · simp only [List.mem_append] at hp ⊢
      rcases hp with (hp | hp | hp) | hp
      · exact .inl (.inl hp)
      · exact .inr (.inl hp)
      · exact .inl (.inr (.inr hp))
      · exact .inr (.inr hp)
  · have hs : ¬ i < σ.length := by rw [S.len]; exact hi
    rw [List.set_eq_of_length_le (by omega), List.set_eq_of_length_le (by omega)]
    simp only [OwnL] at b
    obtain ⟨x, r', g1, g2, ex, eg, o, b⟩ := b
    cases ex
    subst eg
    refine ⟨S.gh, S.gg, S.hh, S.n, fp, g2, a, b, ?_, fun p hp => d p ?_⟩
    · rw [List.nodup_append] at cc ⊢
      exact ⟨cc.1, (List.nodup_append.mp cc.2.1).2.1, fun x hx y hy e => cc.2.2 x hx y (by simp [hy]) e⟩
    · simp only [List.mem_append] at hp ⊢
      rcases hp with hp | hp
      · exact .inl hp
      · exact .inr (.inr hp)
/-- slot i's value is handed on; the slot is empty then -/
theorem SttV.move {i : Nat} (S : SttV K A G H σ ρ ts vs) (e : ρ[i]? = some (some t)) : ∃ v, σ[i]? = some (some v) ∧ SttV K A G H σ (ρ.set i none) (t :: ts) (v :: vs) := by
  obtain ⟨fp, f, a, b, cc, d⟩ := S.own
  have hi : i < ρ.length := (List.getElem?_eq_some_iff.mp e).1
  obtain ⟨s, r, f1, ff, f2, e1, e2, e3, h4, h5⟩ := a.split hi
  rw [e] at e2; cases e2
  obtain ⟨v, rfl, o⟩ := h4
  subst e3
  have h6 := h5 G H (some v) none [] (Same.refl G) (fun _ _ => rfl) rfl
  have es : σ.set i (some v) = σ := by
    apply List.ext_getElem?
    intro j
    by_cases hj : i = j
    · subst hj
      rw [List.getElem?_set_self (by rw [S.len]; exact hi), e1]
    · rw [List.getElem?_set_ne hj]
  rw [es] at h6
  refine ⟨v, e1, S.gh, S.gg, S.hh, S.n, f1 ++ ([] ++ f2), ff ++ f, h6, ?_, ?_, fun p hp => d p ?_⟩
  · simp only [OwnL]
    exact ⟨v, vs, ff, f, rfl, rfl, o, b⟩
  · have : List.Perm (f1 ++ (ff ++ f2) ++ f) (f1 ++ ([] ++ f2) ++ (ff ++ f)) := by
      rw [List.nil_append]
      have : List.Perm (f1 ++ (ff ++ f2) ++ f) (f1 ++ (f2 ++ ff) ++ f) := List.Perm.append_right _ (List.Perm.append_left _ List.perm_append_comm)
      refine this.trans ?_
      simp
    exact this.nodup_iff.mp cc
  · simp only [List.mem_append, List.not_mem_nil, false_or] at hp ⊢
    rcases hp with (hp | hp) | hp | hp
    · exact .inl (.inl hp)
    · exact .inl (.inr (.inr hp))
    · exact .inl (.inr (.inl hp))
    · exact .inr hp
/-- the value at hand is frozen -/
theorem SttV.freeze (S : SttV K A G H σ ρ (t :: ts) (v :: vs)) : ∃ G', Same G G' ∧ SttV K A G' H σ ρ (.sh t.d :: ts) (v :: vs) := by
  obtain ⟨fp, f, a, b, cc, d⟩ := S.own
  simp only [OwnL] at b
  obtain ⟨x, r', g1, g2, ex, eg, o, b⟩ := b
  cases ex
  subst eg
  have sg : Same G (frzAt G H g1) := frzAt_same S.gh
  have nn : ∀ p ∈ fp ++ g2, p ∉ g1 := fun p hp hq => by
    rw [List.nodup_append] at cc
    rcases List.mem_append.mp hp with hp | hp
    · exact cc.2.2 p hp p (by simp [hq]) rfl
    · exact (List.nodup_append.mp cc.2.1).2.2 p hq p hp rfl
  refine ⟨frzAt G H g1, sg, frzAt_le S.gh, S.gg.trans sg, S.hh, fun p o' e n m => ?_, fp, g2, a.mono sg fun _ _ => rfl, ?_, ?_, fun p hp => ⟨?_, (d p ?_).2⟩⟩
  · have : p ∉ g1 := fun hp => by
      rcases (d p (by simp [hp])).2 with z | z
      · rw [e] at z; cases z
      · exact n z
    rw [frzAt_out this]
    exact S.n p o' e n m
  · simp only [OwnL]
    exact ⟨v, vs, [], g2, rfl, rfl, by simp only [Own]; exact ⟨trivial, o.frozen S.gh⟩, OwnL.mono sg _ _ _ (fun _ _ => rfl) b⟩
  · rw [List.nodup_append] at cc ⊢
    exact ⟨cc.1, (List.nodup_append.mp cc.2.1).2.1, fun x hx y hy e => cc.2.2 x hx y (by simp [hy]) e⟩
  · rw [frzAt_out (nn p hp)]
    refine (d p ?_).1
    simp only [List.mem_append] at hp ⊢
    rcases hp with hp | hp
    · exact .inl hp
    · exact .inr (.inr hp)
  · simp only [List.mem_append] at hp ⊢
    rcases hp with hp | hp
    · exact .inl hp
    · exact .inr (.inr hp)
/-- slot i frozen where it stands -/
def frzSlot (i : Nat) (ρ : Env) : Env := match ρ[i]? with | some (some t) => ρ.set i (some (.sh t.d)) | _ => ρ
theorem SttV.frzSlot (S : SttV K A G H σ ρ ts vs) (i : Nat) : ∃ G', Same G G' ∧ SttV K A G' H σ (frzSlot i ρ) ts vs := by
  unfold DV.frzSlot
  cases e : ρ[i]? with
  | none => exact ⟨G, Same.refl G, S⟩
  | some o =>
    cases o with
    | none => exact ⟨G, Same.refl G, S⟩
    | some t =>
      obtain ⟨v, e1, S1⟩ := S.move e
      obtain ⟨G', s, S2⟩ := S1.freeze
      refine ⟨G', s, ?_⟩
      have S3 := S2.store i
      have es : σ.set i (some v) = σ := by
        apply List.ext_getElem?
        intro j
        by_cases hj : i = j
        · subst hj
          rw [List.getElem?_set_self (by exact (List.getElem?_eq_some_iff.mp e1).1), e1]
        · rw [List.getElem?_set_ne hj]
      rw [es, List.set_set] at S3
      exact S3
/-- a slot forgotten -/
theorem SttV.drop (S : SttV K A G H σ ρ (t :: ts) (v :: vs)) : SttV K A G H σ ρ ts vs := by
  obtain ⟨fp, f, a, b, cc, d⟩ := S.own
  simp only [OwnL] at b
  obtain ⟨x, r', g1, g2, ex, eg, o, b⟩ := b
  cases ex
  subst eg
  refine ⟨S.gh, S.gg, S.hh, S.n, fp, g2, a, b, ?_, fun p hp => d p ?_⟩
  · rw [List.nodup_append] at cc ⊢
    exact ⟨cc.1, (List.nodup_append.mp cc.2.1).2.1, fun x hx y hy e => cc.2.2 x hx y (by simp [hy]) e⟩
  · simp only [List.mem_append] at hp ⊢
    rcases hp with hp | hp
    · exact .inl hp
    · exact .inr (.inr hp)
end

/-- counted from here on -/
abbrev Act.at (A : Act) (G : Hp) : Act := { A with G0 := G }
section
variable {K : PySem.W.Frag} {A : Act} {G H G' H' : Hp} {σ σ' : St} {ρ ρ' : Env} {ts us : List T} {vs ws : List V}
theorem SttV.re (S : SttV K A G H σ ρ ts vs) : SttV K (A.at G) G H σ ρ ts vs := ⟨S.gh, Same.refl G, S.hh, fun p o _ _ n => n, S.own⟩
theorem SttV.un (S : SttV K A G H σ ρ ts vs) (S' : SttV K (A.at G) G' H' σ' ρ' us ws) : SttV K A G' H' σ' ρ' us ws :=
  ⟨S'.gh, S.gg.trans S'.gg, S'.hh, fun p o e n m => S'.n p o e n (S.n p o e n m), S'.own⟩
end

/-! ## statements -/
inductive Out where
  | nx (ρ : Env) | bk (ρ : Env) | ct (ρ : Env)
  | rt (t : T) (ρ : Env)
  | exc (x : Exn) (ρ : Env)
abbrev FS := Env → Option Out
def PostS (K : PySem.W.Frag) (W : WX) (A : Act) (D : Ends) : Option Out → Prop
  | none => False
  | some (.nx ρ) => ∀ σ G H, Stt K A G H σ ρ → D.nx σ H
  | some (.bk ρ) => ∀ σ G H, Stt K A G H σ ρ → D.bk σ H
  | some (.ct ρ) => ∀ σ G H, Stt K A G H σ ρ → D.ct σ H
  | some (.rt t ρ) => ∀ v σ G H, SttV K A G H σ ρ [t] [v] → D.rt v H
  | some (.exc x ρ) => ∀ d σ G H, Stt K A G H σ ρ → ExcAt K G H x d → W x.cls d σ H
theorem PostS.re {K : PySem.W.Frag} {W : WX} {A : Act} {D : Ends} {G H : Hp} {σ : St} {ρ : Env} {ts : List T} {vs : List V} {o : Option Out} (S : SttV K A G H σ ρ ts vs) (h : PostS K W A D o) : PostS K W (A.at G) D o := by
  cases o with
  | none => exact h
  | some u =>
    cases u with
    | nx ρ => exact fun σ' G' H' S' => h σ' G' H' (S.un S')
    | bk ρ => exact fun σ' G' H' S' => h σ' G' H' (S.un S')
    | ct ρ => exact fun σ' G' H' S' => h σ' G' H' (S.un S')
    | rt t ρ => exact fun v σ' G' H' S' => h v σ' G' H' (S.un S')
    | exc x ρ => exact fun d σ' G' H' S' => h d σ' G' H' (S.un S')
def SOK (K : PySem.W.Frag) (W : WX) (t : TS) (F : FS) : Prop := ∀ A ρ G H σ D, Stt K A G H σ ρ → PostS K W A D (F ρ) → t D σ H
def DS (X : Cx) (W : WX) (st : Stmt) (F : FS) : Prop := ∃ t, PS X st t ∧ SOK X.K W t F
def DSs (X : Cx) (W : WX) (sts : List Stmt) (F : FS) : Prop := ∃ t, PSs X sts t ∧ SOK X.K W t F
/-- behind an expression -/
def runE {α : Type} (o : Option (EO α)) (ρ : Env) (k : α → Option Out) : Option Out :=
  match o with
  | none => none
  | some (.exc x) => some (.exc x ρ)
  | some (.ok a) => k a
@[simp] theorem runE_ok {α : Type} (a : α) (ρ : Env) (k : α → Option Out) : runE (some (.ok a)) ρ k = k a := rfl
@[simp] theorem runE_exc {α : Type} (x : Exn) (ρ : Env) (k : α → Option Out) : runE (some (.exc x)) ρ k = some (.exc x ρ) := rfl
@[simp] theorem runE_none {α : Type} (ρ : Env) (k : α → Option Out) : runE none ρ k = none := rfl
theorem PostS.run {α : Type} {K : PySem.W.Frag} {W : WX} {A : Act} {D : Ends} {o : Option (EO α)} {ρ : Env} {k : α → Option Out} {G H : Hp} {σ : St} (S : Stt K A G H σ ρ) (h : PostS K W A D (runE o ρ k)) : Post K W G H σ (fun a => PostS K W A D (k a)) o := by
  cases o with
  | none => exact h
  | some u =>
    cases u with
    | ok a => exact h
    | exc x => exact fun d G' H' g e => h d σ G' H' (S.grow g) e

section
variable {X : Cx} {W : WX} {fr : Bool} {e : Expr} {st : Stmt} {sts : List Stmt} {pos : Pos} {f : FE} {F F' : FS}
def nextF : FS := fun ρ => some (.nx ρ)
def seqF (F F' : FS) : FS := fun ρ => match F ρ with | some (.nx ρ') => F' ρ' | o => o
theorem dss_nil : DSs X W [] nextF := ⟨_, pss_nil, fun A ρ G H σ D S h => h σ G H S⟩
theorem dss_cons (h1 : DS X W st F) (h2 : DSs X W sts F') : DSs X W (st :: sts) (seqF F F') := by
  obtain ⟨t, p1, k1⟩ := h1
  obtain ⟨u, p2, k2⟩ := h2
  refine ⟨_, pss_cons p1 p2, fun A ρ G H σ D S h => k1 A ρ G H σ _ S ?_⟩
  unfold seqF at h
  cases q : F ρ with
  | none => rw [q] at h; exact h
  | some o =>
    rw [q] at h
    cases o with
    | nx ρ' => exact fun σ' G' H' S' => k2 A ρ' G' H' σ' D S' h
    | bk ρ' => exact h
    | ct ρ' => exact h
    | rt t ρ' => exact h
    | exc x ρ' => exact h
theorem dss_one (h1 : DS X W st F) : DSs X W [st] F := by obtain ⟨t, p, k⟩ := h1; exact ⟨t, pss_one p, k⟩
/-- slot i is frozen ahead -/
theorem dss_frz (i : Nat) (h : DSs X W sts F) : DSs X W sts (fun ρ => F (frzSlot i ρ)) := by
  obtain ⟨t, p, k⟩ := h
  refine ⟨t, p, fun A ρ G H σ D S h => ?_⟩
  obtain ⟨G', s, S'⟩ := S.frzSlot i
  exact k A _ G' H σ D S' h
theorem ds_frz (i : Nat) (h : DS X W st F) : DS X W st (fun ρ => F (frzSlot i ρ)) := by
  obtain ⟨t, p, k⟩ := h
  refine ⟨t, p, fun A ρ G H σ D S h => ?_⟩
  obtain ⟨G', s, S'⟩ := S.frzSlot i
  exact k A _ G' H σ D S' h
theorem ds_pass : DS X W (.Pass pos) nextF := ⟨_, ps_pass, fun A ρ G H σ D S h => h σ G H S⟩
theorem ds_break : DS X W (.Break pos) (fun ρ => some (.bk ρ)) := ⟨_, ps_break, fun A ρ G H σ D S h => h σ G H S⟩
theorem ds_continue : DS X W (.Continue pos) (fun ρ => some (.ct ρ)) := ⟨_, ps_continue, fun A ρ G H σ D S h => h σ G H S⟩
def retF (f : FE) : FS := fun ρ => runE (f ρ) ρ fun t => some (.rt t ρ)
theorem ds_ret (h : DE true X W e f) : DS X W (.Return (some e) pos) (retF f) := by
  obtain ⟨te, p, k⟩ := h
  refine ⟨_, ps_ret p, fun A ρ G H σ D S h => ?_⟩
  exact k ρ G H σ _ S.gh S.slots ((PostS.run S h).imp fun t ht v G' H' fp g o c => ht v σ G' H' (S.take g o c))
def retN : FS := fun ρ => some (.rt (.sh .non) ρ)
theorem ds_retN : DS X W (.Return none pos) retN := ⟨_, ps_retN, fun A ρ G H σ D S h => h .non σ G H (S.take (Grow.refl S.gh) (by simp [Own, Rep]) .nil)⟩
/-- return x, whatever x holds -/
def retMv (i : Nat) : FS := fun ρ => match ρ[i]? with | some (some t) => some (.rt t (ρ.set i none)) | _ => none
theorem ds_retMv (i : Nat) {x : Str} {p : Pos} (hN : X.N[i]? = some x := by rfl) (hv : Vis X.env.scope x := by first | exact Or.inl rfl | exact Or.inr (Or.inl rfl) | exact Or.inr (Or.inr rfl)) (hd : (x == ("__debug__" : Str)) = false := by decide)
    (hcd : (x == ("__classdict__" : Str)) = false := by decide) : DS X W (.Return (some (.Name x p)) pos) (retMv i) := by
  refine ⟨_, ps_ret (pv i hN hv hd hcd), fun A ρ G H σ D S h => ?_⟩
  unfold retMv at h
  cases q : ρ[i]? with
  | none => rw [q] at h; exact h.elim
  | some o =>
    rw [q] at h
    cases o with
    | none => exact h.elim
    | some t =>
      obtain ⟨v, e, S'⟩ := S.move q
      exact ⟨v, e, h v σ G H S'⟩
def dropF (f : FE) : FS := fun ρ => runE (f ρ) ρ fun _ => some (.nx ρ)
theorem ds_expr (h : DE fr X W e f) (hs : swapsWith e none pos.line X.env = pure false := by rfl) : DS X W (.Expr e pos) (dropF f) := by
  obtain ⟨te, p, k⟩ := h
  refine ⟨_, ps_expr p hs, fun A ρ G H σ D S h => ?_⟩
  exact k ρ G H σ _ S.gh S.slots ((PostS.run S h).imp fun t ht v G' H' fp g o c => ht σ G' H' (S.grow g))
def ifF (c : FB) (F F' : FS) : FS := fun ρ => runE (c ρ) ρ fun b => if b then F ρ else F' ρ
theorem ds_if {c : Expr} {a b : List Stmt} {g : FB} (hc : DT X W c g) (ha : DSs X W a F) (hb : DSs X W b F') : DS X W (.If c a b pos) (ifF g F F') := by
  obtain ⟨tt, p1, k1⟩ := hc
  obtain ⟨t, p2, k2⟩ := ha
  obtain ⟨u, p3, k3⟩ := hb
  refine ⟨_, ps_if p1 p2 p3, fun A ρ G H σ D S h => ?_⟩
  refine k1 ρ G H σ _ S.gh S.slots ((PostS.run S h).imp fun b hb G' H' g => ?_)
  cases b with
  | true => exact k2 A ρ G' H' σ D (S.grow g) hb
  | false => exact k3 A ρ G' H' σ D (S.grow g) hb
def setF (i : Nat) (f : FE) : FS := fun ρ => runE (f ρ) ρ fun t => some (.nx (ρ.set i (some t)))
theorem ds_set (i : Nat) {x : Str} {pos' : Pos} (hN : X.N.Nodup) (h : DE true X W e f) (hi : X.N[i]? = some x := by rfl) (hx : Loc X.env.scope x := by first | exact Or.inl rfl | exact Or.inr rfl) (hs : swapsWith e (some (.Name x pos')) pos.line X.env = pure false := by rfl)
    (hf : X.fn x = true ∨ X.env.scope.names.lookup x = some .local := by first | exact .inl rfl | exact .inr rfl | assumption) : DS X W (.Assign [.Name x pos'] e pos) (setF i f) := by
  obtain ⟨te, p, k⟩ := h
  refine ⟨_, ps_set (i := i) hN hi hx p hs hf, fun A ρ G H σ D S h => ?_⟩
  exact k ρ G H σ _ S.gh S.slots ((PostS.run S h).imp fun t ht v G' H' fp g o c => ht _ G' H' ((S.take g o c).store i))
/-- x = y, whatever y holds: y's slot is empty then -/
def setMv (i j : Nat) : FS := fun ρ => match ρ[j]? with | some (some t) => some (.nx ((ρ.set j none).set i (some t))) | _ => none
theorem ds_setMv (i j : Nat) {x y : Str} {pos' p : Pos} (hN : X.N.Nodup) (hi : X.N[i]? = some x := by rfl) (hx : Loc X.env.scope x := by first | exact Or.inl rfl | exact Or.inr rfl) (hj : X.N[j]? = some y := by rfl)
    (hv : Vis X.env.scope y := by first | exact Or.inl rfl | exact Or.inr (Or.inl rfl) | exact Or.inr (Or.inr rfl)) (hd : (y == ("__debug__" : Str)) = false := by decide) (hcd : (y == ("__classdict__" : Str)) = false := by decide)
    (hs : swapsWith (.Name y p) (some (.Name x pos')) pos.line X.env = pure false := by rfl)
    (hf : X.fn x = true ∨ X.env.scope.names.lookup x = some .local := by first | exact .inl rfl | exact .inr rfl | assumption) : DS X W (.Assign [.Name x pos'] (.Name y p) pos) (setMv i j) := by
  refine ⟨_, ps_set (i := i) hN hi hx (pv j hj hv hd hcd) hs hf, fun A ρ G H σ D S h => ?_⟩
  unfold setMv at h
  cases q : ρ[j]? with
  | none => rw [q] at h; exact h.elim
  | some o =>
    rw [q] at h
    cases o with
    | none => exact h.elim
    | some t =>
      obtain ⟨v, e, S'⟩ := S.move q
      exact ⟨v, e, h _ G H (S'.store i)⟩
end

/-! ### loops -/
/-- for: what a turn does with an item -/
def forF (tg : T → FS) (B : FS) : List T → FS
  | [], ρ => some (.nx ρ)
  | t :: ts, ρ => match tg t ρ with
    | some (.nx ρ1) => (match B ρ1 with
      | some (.nx ρ2) => forF tg B ts ρ2
      | some (.ct ρ2) => forF tg B ts ρ2
      | some (.bk ρ2) => some (.nx ρ2)
      | o => o)
    | _ => none
/-- the target's store; what else is at hand stays -/
def GOK (K : PySem.W.Frag) (g : TG) (tg : T → FS) : Prop := ∀ A ρ G H σ t v us ws (Q : St → Hp → Prop), SttV K A G H σ ρ (t :: us) (v :: ws) → (∃ ρ', tg t ρ = some (.nx ρ') ∧ ∀ σ' G' H', Same G G' → SttV K A G' H' σ' ρ' us ws → Q σ' H') → g v σ H Q
def DG (X : Cx) (e : Expr) (tg : T → FS) : Prop := ∃ g, PG X e g ∧ GOK X.K g tg
def tgName (i : Nat) : T → FS := fun t ρ => some (.nx (ρ.set i (some t)))
/-- several targets from the left -/
def tgsF : List (T → FS) → List T → FS
  | [], [], ρ => some (.nx ρ)
  | g :: gs, t :: ts, ρ => match g t ρ with | some (.nx ρ') => tgsF gs ts ρ' | _ => none
  | _, _, _ => none
def GsOK (K : PySem.W.Frag) (g : TGs) (tg : List (T → FS)) : Prop := ∀ A ρ G H σ ts vs us ws (Q : St → Hp → Prop), vs.length = ts.length → SttV K A G H σ ρ (ts ++ us) (vs ++ ws) → (∃ ρ', tgsF tg ts ρ = some (.nx ρ') ∧ ∀ σ' G' H', Same G G' → SttV K A G' H' σ' ρ' us ws → Q σ' H') → g vs σ H Q
def DGs (X : Cx) (es : List Expr) (tg : List (T → FS)) : Prop := ∃ g, PGs X es g ∧ GsOK X.K g tg
def tupItems : T → Option (List T)
  | .sh (.tup ds) => some (ds.map T.sh)
  | .tup ts => some ts
  | _ => none
def tgTup (n : Nat) (tgs : List (T → FS)) : T → FS := fun t ρ => match tupItems t with | some ts => if ts.length = n then tgsF tgs ts ρ else none | none => none
theorem OwnL.cons_iff {K : PySem.W.Frag} {G H : Hp} {t : T} {ts : List T} {v : V} {vs : List V} {f : List Addr} : OwnL K G H (t :: ts) (v :: vs) f ↔ ∃ f1 f2, f = f1 ++ f2 ∧ Own K G H t v f1 ∧ OwnL K G H ts vs f2 := by
  simp only [OwnL]
  constructor
  · rintro ⟨x, r, f1, f2, e, e2, a, b⟩
    cases e
    exact ⟨f1, f2, e2, a, b⟩
  · rintro ⟨f1, f2, e2, a, b⟩
    exact ⟨v, vs, f1, f2, rfl, e2, a, b⟩
/-- a tuple at hand: its items at hand -/
theorem SttV.items {K : PySem.W.Frag} {A : Act} {G H : Hp} {σ : St} {ρ : Env} {t : T} {v : V} {us ts : List T} {ws : List V} (S : SttV K A G H σ ρ (t :: us) (v :: ws)) (e : tupItems t = some ts) :
    ∃ a xs, v = .ref a ∧ SqT K H a xs ∧ xs.length = ts.length ∧ SttV K A G H σ ρ (ts ++ us) (xs ++ ws) := by
  obtain ⟨fp, f, a, b0, cc, d⟩ := S.own
  obtain ⟨f1, f2, ef, o, b⟩ := OwnL.cons_iff.mp b0
  clear b0
  subst ef
  cases t with
  | sh dd =>
    cases dd with
    | tup ds =>
      simp only [tupItems, Option.some.injEq] at e
      subst e
      simp only [Own, Rep] at o
      obtain ⟨e1, p, xs, rfl, q, r⟩ := o
      subst e1
      refine ⟨p, xs, rfl, Same.sqt S.gh q, by rw [RepL.length _ _ r, List.length_map], S.gh, S.gg, S.hh, S.n, fp, [] ++ f2, a, OwnL.append (OwnL.of_rep r) b, cc, d⟩
    | _ => simp [tupItems] at e
  | tup l =>
    simp only [tupItems, Option.some.injEq] at e
    subst e
    simp only [Own] at o
    obtain ⟨p, xs, g, rfl, rfl, q, r⟩ := o
    refine ⟨p, xs, rfl, .of q, OwnL.length _ _ _ r, S.gh, S.gg, S.hh, S.n, fp, g ++ f2, a, OwnL.append r b, ?_, fun b hb => d b ?_⟩
    · have : List.Sublist (fp ++ (g ++ f2)) (fp ++ (p :: g ++ f2)) := List.Sublist.append_left (by simp) fp
      exact cc.sublist this
    · simp only [List.mem_append, List.cons_append, List.mem_cons] at hb ⊢
      rcases hb with hb | hb | hb
      · exact .inl hb
      · exact .inr (.inr (.inl hb))
      · exact .inr (.inr (.inr hb))
  | _ => simp [tupItems] at e
section
variable {X : Cx} {W : WX} {fr : Bool} {e : Expr} {es : List Expr} {st : Stmt} {sts : List Stmt} {pos : Pos} {f : FE} {F F' B : FS} {tg : T → FS} {tgs : List (T → FS)}
theorem dg_name (i : Nat) {x : Str} (hN : X.N.Nodup) (hi : X.N[i]? = some x := by rfl) (hx : Loc X.env.scope x := by first | exact Or.inl rfl | exact Or.inr rfl)
    (hf : X.fn x = true ∨ X.env.scope.names.lookup x = some .local := by first | exact .inl rfl | exact .inr rfl | assumption) : DG X (.Name x pos) (tgName i) := by
  refine ⟨_, pg_name (i := i) hN hi hx hf, fun A ρ G H σ t v us ws Q S h => ?_⟩
  obtain ⟨ρ', e, k⟩ := h
  cases e
  exact k _ G H (Same.refl G) (S.store i)
theorem dgs_nil : DGs X [] [] := by
  refine ⟨_, pgs_nil, fun A ρ G H σ ts vs us ws Q hl S h => ?_⟩
  obtain ⟨ρ', e, k⟩ := h
  cases ts with
  | nil =>
    cases vs with
    | nil =>
      simp only [tgsF, Option.some.injEq, Out.nx.injEq] at e
      subst e
      exact ⟨rfl, k σ G H (Same.refl G) S⟩
    | cons _ _ => simp at hl
  | cons t ts => simp [tgsF] at e
theorem dgs_cons (h1 : DG X e tg) (h2 : DGs X es tgs) (hs : (assignEach (e :: es) X.env).map (·.2) = assign e X.env :: (assignEach es X.env).map (·.2) := by rfl) : DGs X (e :: es) (tg :: tgs) := by
  obtain ⟨g, p1, k1⟩ := h1
  obtain ⟨gs, p2, k2⟩ := h2
  refine ⟨_, pgs_cons p1 p2 hs, fun A ρ G H σ ts vs us ws Q hl S h => ?_⟩
  obtain ⟨ρ', e, k⟩ := h
  cases ts with
  | nil => simp [tgsF] at e
  | cons t ts =>
    cases vs with
    | nil => simp at hl
    | cons v vs =>
      simp only [tgsF] at e
      cases q : tg t ρ with
      | none => rw [q] at e; cases e
      | some o =>
        rw [q] at e
        cases o with
        | nx ρ1 =>
          refine ⟨v, vs, rfl, k1 A ρ G H σ t v (ts ++ us) (vs ++ ws) _ S ⟨ρ1, q, fun σ1 G1 H1 s1 S1 => ?_⟩⟩
          exact k2 A ρ1 G1 H1 σ1 ts vs us ws Q (by simpa using hl) S1 ⟨ρ', e, fun σ2 G2 H2 s2 S2 => k σ2 G2 H2 (s1.trans s2) S2⟩
        | _ => cases e
theorem dg_tup {k n : Nat} (hc : X.calm = true) (h : DGs X es tgs) (hn : (assignEach es X.env).length = n := by rfl) (hst : (assignEach es X.env).findIdx? (·.1) = none := by rfl) : DG X (.Tuple es k pos) (tgTup n tgs) := by
  obtain ⟨g, p, kk⟩ := h
  refine ⟨_, pg_tup hc p hn hst, fun A ρ G H σ t v us ws Q S h => ?_⟩
  obtain ⟨ρ', e, k⟩ := h
  unfold tgTup at e
  cases q : tupItems t with
  | none => rw [q] at e; cases e
  | some ts =>
    rw [q] at e
    by_cases hl : ts.length = n
    · simp only [hl, if_true] at e
      obtain ⟨a, xs, ev, hq, hx, S1⟩ := S.items q
      exact ⟨a, xs, ev, hq, hx.trans hl, kk A ρ G H σ ts xs us ws Q hx S1 ⟨ρ', e, k⟩⟩
    · simp only [hl, if_false] at e; cases e
/-- target = value -/
def asgF (tg : T → FS) (f : FE) : FS := fun ρ => runE (f ρ) ρ fun t => match tg t ρ with | some (.nx ρ') => some (.nx ρ') | _ => none
theorem ds_asg {t : Expr} (h : DE true X W e f) (hg : DG X t tg) (hs : swapsWithSole [t] e pos.line X.env = pure false := by rfl) (hw : swappedStores [t] e X.env = pure none := by rfl)
    (h1 : (assignEach [t] X.env).map (·.2) = [assign t X.env] := by rfl) : DS X W (.Assign [t] e pos) (asgF tg f) := by
  obtain ⟨te, p, k⟩ := h
  obtain ⟨g, p2, k2⟩ := hg
  refine ⟨_, ps_asg p p2 hs hw h1, fun A ρ G H σ D S h => ?_⟩
  refine k ρ G H σ _ S.gh S.slots ((PostS.run S h).imp fun t ht v G' H' fp g o c => ?_)
  cases q : tg t ρ with
  | none => rw [q] at ht; exact ht.elim
  | some o' =>
    rw [q] at ht
    cases o' with
    | nx ρ' => exact k2 A ρ G' H' σ t v [] [] _ (S.take g o c) ⟨ρ', q, fun σ2 G2 H2 _ S2 => ht σ2 G2 H2 S2⟩
    | _ => exact ht.elim

/-! ### what is walked -/
def listD : D → Option (List D)
  | .lst l => some l
  | .frl l => some l
  | _ => none
def tupD : D → Option (List D)
  | .tup l => some l
  | _ => none
theorem listD_rep {K : PySem.W.Frag} {G : Hp} {d : D} {v : V} {ds : List D} (e : listD d = some ds) (r : Rep K G d v) : ∃ a xs, v = .ref a ∧ SqL K G a xs ∧ RepL K G ds xs := by
  cases d with
  | lst l =>
    simp only [listD, Option.some.injEq] at e; subst e
    simp only [Rep] at r
    obtain ⟨a, xs, e, q, r⟩ := r
    exact ⟨a, xs, e, .of q, r⟩
  | frl l =>
    simp only [listD, Option.some.injEq] at e; subst e
    simpa only [Rep] using r
  | _ => simp [listD] at e
theorem tupD_rep {K : PySem.W.Frag} {G : Hp} {d : D} {v : V} {ds : List D} (e : tupD d = some ds) (r : Rep K G d v) : ∃ a xs, v = .ref a ∧ SqT K G a xs ∧ RepL K G ds xs := by
  cases d with
  | tup l =>
    simp only [tupD, Option.some.injEq] at e; subst e
    simpa only [Rep] using r
  | _ => simp [tupD] at e
/-- one turn and the others -/
theorem PostS.turn {K : PySem.W.Frag} {W : WX} {A : Act} {D : Ends} {t : T} {ts : List T} {ρ : Env} (h : PostS K W A D (forF tg B (t :: ts) ρ)) :
    ∃ ρ1, tg t ρ = some (.nx ρ1) ∧ ∀ (N : St → Hp → Prop), (∀ ρ2, PostS K W A D (forF tg B ts ρ2) → ∀ σ G H, Stt K A G H σ ρ2 → N σ H) → PostS K W A { D with nx := N, ct := N, bk := D.nx } (B ρ1) := by
  simp only [forF] at h
  cases q : tg t ρ with
  | none => rw [q] at h; exact h.elim
  | some o =>
    rw [q] at h
    cases o with
    | nx ρ1 =>
      refine ⟨ρ1, rfl, fun N k => ?_⟩
      cases q2 : B ρ1 with
      | none => simp only [q2] at h; exact h
      | some o2 =>
        simp only [q2] at h
        cases o2 with
        | nx ρ2 => exact k ρ2 h
        | ct ρ2 => exact k ρ2 h
        | bk ρ2 => exact h
        | rt t ρ2 => exact h
        | exc x ρ2 => exact h
    | _ => exact h.elim
def forL (tg : T → FS) (B : FS) (f : FE) : FS := fun ρ => runE (f ρ) ρ fun t => match listD t.d with | some ds => forF tg B (ds.map T.sh) ρ | none => none
def forT (tg : T → FS) (B : FS) (f : FE) : FS := fun ρ => runE (f ρ) ρ fun t => match tupD t.d with | some ds => forF tg B (ds.map T.sh) ρ | none => none
end
/-- a body's context: where exceptions go, loops, no exception handled -/
structure Ctx (X : Cx) (W : WX) : Prop where
  tk : Takes X W
  po : PassesOwn (model X.prog X.w) X.A X.env X.xe
  calm : X.calm = true
  nd : X.N.Nodup
section
variable {X : Cx} {W : WX} {fr : Bool} {e t : Expr} {es : List Expr} {st : Stmt} {sts : List Stmt} {pos : Pos} {f : FE} {F F' B : FS} {tg : T → FS} {tgs : List (T → FS)}
theorem ds_forL (C : Ctx X W) (h : DE true X W e f) (hg : DG X t tg) (hb : DSs X W sts B) (hs : ∀ x, foldedSetIterable e X.env x = pure x := by intro _; rfl) : DS X W (.For t e sts [] pos) (forL tg B f) := by
  obtain ⟨te, p, k⟩ := h
  obtain ⟨g, p2, k2⟩ := hg
  obtain ⟨tb, p3, k3⟩ := hb
  refine ⟨_, ps_for C.po C.calm (pi_list p) p2 p3 hs, fun A ρ G H σ D S h => ?_⟩
  refine k ρ G H σ _ S.gh S.slots ((PostS.run S h).imp fun t ht v G1 H1 fp g1 o c => ?_)
  obtain ⟨G2, s2, S2⟩ := (S.take g1 o c).freeze
  cases q : listD t.d with
  | none => simp only [q] at ht; exact ht.elim
  | some ds =>
    simp only [q] at ht
    have rp : Rep X.K G2 t.d v := by
      obtain ⟨_, _, _, b, _⟩ := S2.own
      obtain ⟨f1, f2, _, o, _⟩ := OwnL.cons_iff.mp b
      simp only [Own] at o
      exact o.2
    obtain ⟨a, xs, rfl, hq, hr⟩ := listD_rep q rp
    have hl : xs.length = ds.length := RepL.length _ _ hr
    have ht2 := PostS.re S2 ht
    refine ⟨a, rfl, ⟨xs, S2.gh.seq hq⟩, for_list (K := X.K) (a := a) (xs := xs) (fun i σ H => ∃ ρi G', Stt X.K (A.at G2) G' H σ ρi ∧ PostS X.K W (A.at G2) D (forF tg B ((ds.drop i).map T.sh) ρi)) ⟨ρ, G2, S2.drop.re, ht2⟩ ?_ ?_ ?_⟩
    · rintro i σ H _ ⟨ρi, G', S', _⟩
      exact (S'.gg.trans S'.gh).seq hq
    · rintro i x σ H hx ⟨ρi, G', S', hp⟩
      obtain ⟨d, hd, rd⟩ := RepL.get _ _ i x hr hx
      have ed : ds.drop i = d :: ds.drop (i + 1) := by
        obtain ⟨hi, e⟩ := List.getElem?_eq_some_iff.mp hd
        rw [List.drop_eq_getElem_cons hi, e]
      rw [ed, List.map_cons] at hp
      obtain ⟨ρ1, e1, kk⟩ := hp.turn
      refine k2 _ ρi G' H σ (.sh d) x [] [] _ (S'.take (Grow.refl S'.gh) (by simp only [Own]; exact ⟨trivial, Rep.mono S'.gg _ _ rd⟩) .nil) ⟨ρ1, e1, fun σ3 G3 H3 s3 S3 => ?_⟩
      exact k3 _ ρ1 G3 H3 σ3 _ S3 (kk _ fun ρ2 hp2 σ4 G4 H4 S4 => ⟨ρ2, G4, S4, hp2⟩)
    · rintro σ H ⟨ρi, G', S', hp⟩
      rw [hl, List.drop_length] at hp
      exact hp σ G' H S'
theorem ds_forT (C : Ctx X W) (h : DE true X W e f) (hg : DG X t tg) (hb : DSs X W sts B) (hs : ∀ x, foldedSetIterable e X.env x = pure x := by intro _; rfl) : DS X W (.For t e sts [] pos) (forT tg B f) := by
  obtain ⟨te, p, k⟩ := h
  obtain ⟨g, p2, k2⟩ := hg
  obtain ⟨tb, p3, k3⟩ := hb
  refine ⟨_, ps_for C.po C.calm (pi_tup p) p2 p3 hs, fun A ρ G H σ D S h => ?_⟩
  refine k ρ G H σ _ S.gh S.slots ((PostS.run S h).imp fun t ht v G1 H1 fp g1 o c => ?_)
  obtain ⟨G2, s2, S2⟩ := (S.take g1 o c).freeze
  cases q : tupD t.d with
  | none => simp only [q] at ht; exact ht.elim
  | some ds =>
    simp only [q] at ht
    have rp : Rep X.K G2 t.d v := by
      obtain ⟨_, _, _, b, _⟩ := S2.own
      obtain ⟨f1, f2, _, o, _⟩ := OwnL.cons_iff.mp b
      simp only [Own] at o
      exact o.2
    obtain ⟨a, xs, rfl, hq, hr⟩ := tupD_rep q rp
    have hl : xs.length = ds.length := RepL.length _ _ hr
    have ht2 := PostS.re S2 ht
    refine ⟨a, rfl, ⟨xs, Same.sqt S2.gh hq⟩, for_tup (K := X.K) (a := a) (xs := xs) (fun i σ H => ∃ ρi G', Stt X.K (A.at G2) G' H σ ρi ∧ PostS X.K W (A.at G2) D (forF tg B ((ds.drop i).map T.sh) ρi)) ⟨ρ, G2, S2.drop.re, ht2⟩ ?_ ?_ ?_⟩
    · rintro i σ H _ ⟨ρi, G', S', _⟩
      exact Same.sqt (S'.gg.trans S'.gh) hq
    · rintro i x σ H hx ⟨ρi, G', S', hp⟩
      obtain ⟨d, hd, rd⟩ := RepL.get _ _ i x hr hx
      have ed : ds.drop i = d :: ds.drop (i + 1) := by
        obtain ⟨hi, e⟩ := List.getElem?_eq_some_iff.mp hd
        rw [List.drop_eq_getElem_cons hi, e]
      rw [ed, List.map_cons] at hp
      obtain ⟨ρ1, e1, kk⟩ := hp.turn
      refine k2 _ ρi G' H σ (.sh d) x [] [] _ (S'.take (Grow.refl S'.gh) (by simp only [Own]; exact ⟨trivial, Rep.mono S'.gg _ _ rd⟩) .nil) ⟨ρ1, e1, fun σ3 G3 H3 s3 S3 => ?_⟩
      exact k3 _ ρ1 G3 H3 σ3 _ S3 (kk _ fun ρ2 hp2 σ4 G4 H4 S4 => ⟨ρ2, G4, S4, hp2⟩)
    · rintro σ H ⟨ρi, G', S', hp⟩
      rw [hl, List.drop_length] at hp
      exact hp σ G' H S'
/-- the ints of a range -/
def rangeL (lo hi : Int) : List T := (List.range (hi - lo).toNat).map fun i => T.sh (.int (lo + (i : Nat)))
def intD : D → Option Int
  | .int i => some i
  | _ => none
def shD : T → Option D
  | .sh d => some d
  | _ => none
def intT (t : T) : Option Int := (shD t).bind intD
noncomputable def small62 (i : Int) : Bool := by classical exact @decide (-(2 ^ 62) ≤ i ∧ i < 2 ^ 62) (Classical.propDecidable _)
noncomputable def forR1 (tg : T → FS) (B : FS) (f : FE) : FS := fun ρ => runE (f ρ) ρ fun t => match intT t with | some j => if small62 j then forF tg B (rangeL 0 j) ρ else none | none => none
noncomputable def forR2 (tg : T → FS) (B : FS) (f f' : FE) : FS := fun ρ => runE (f ρ) ρ fun t => runE (f' ρ) ρ fun t' => match intT t, intT t' with | some i, some j => if small62 i && small62 j then forF tg B (rangeL i j) ρ else none | _, _ => none
theorem intT_own {K : PySem.W.Frag} {G H : Hp} {t : T} {i : Int} {v : V} {fp : List Addr} (e : intT t = some i) (o : Own K G H t v fp) : v = .int i := by
  cases t with
  | sh d =>
    cases d with
    | int c =>
      simp only [intT, shD, Option.bind_some, intD, Option.some.injEq] at e
      subst e
      simp only [Own, Rep] at o
      exact o.2
    | _ => simp [intT, shD, intD] at e
  | _ => simp [intT, shD] at e
theorem for_rng {K : PySem.W.Frag} {A : Act} {ρ : Env} {G H : Hp} {σ : St} {D : Ends} {g : TG} {tb : TS} {lo hi : Int} (k2 : GOK K g tg) (k3 : SOK K W tb B) (S : Stt K A G H σ ρ) (ht : PostS K W A D (forF tg B (rangeL lo hi) ρ)) :
    ∃ W : Nat → Nat → St → Hp → Prop, (∃ m, W 0 m σ H) ∧ ∀ i m σ H, W i m σ H →
      ((Itr lo (hi - lo).toNat).stop i H ∧ D.nx σ H) ∨ ((Itr lo (hi - lo).toNat).go i H ∧ ∃ N : St → Hp → Prop, (∀ σ' H', N σ' H' → ∃ m', m' < m ∧ W (i + 1) m' σ' H') ∧ ∀ x H', (Itr lo (hi - lo).toNat).yld i H x H' → g x σ H' fun σ2 H2 => tb { D with nx := N, ct := N, bk := D.nx } σ2 H2) := by
  have el : (rangeL lo hi).length = (hi - lo).toNat := by simp [rangeL]
  refine for_range (fun i σ H => ∃ ρi G', Stt K A G' H σ ρi ∧ PostS K W A D (forF tg B ((rangeL lo hi).drop i) ρi)) ⟨ρ, G, S, ht⟩ ?_ ?_
  · rintro i σ H hx ⟨ρi, G', S', hp⟩
    have ed : (rangeL lo hi).drop i = T.sh (.int (lo + (i : Nat))) :: (rangeL lo hi).drop (i + 1) := by
      rw [List.drop_eq_getElem_cons (by rw [el]; exact hx)]
      simp [rangeL]
    rw [ed] at hp
    obtain ⟨ρ1, e1, kk⟩ := hp.turn
    refine k2 _ ρi G' H σ _ _ [] [] _ (S'.take (Grow.refl S'.gh) (by simp [Own, Rep]) .nil) ⟨ρ1, e1, fun σ3 G3 H3 s3 S3 => ?_⟩
    exact k3 _ ρ1 G3 H3 σ3 _ S3 (kk _ fun ρ2 hp2 σ4 G4 H4 S4 => ⟨ρ2, G4, S4, hp2⟩)
  · rintro σ H ⟨ρi, G', S', hp⟩
    rw [← el, List.drop_length] at hp
    exact hp σ G' H S'
theorem ds_forR1 {a : Expr} {p0 p1 : Pos} {f : FE} (C : Ctx X W) (hgl : Gl X "range") (hm : X.mg "range" = none) (h : DE fr X W a f) (hg : DG X t tg) (hb : DSs X W sts B) (hs : starEach [a] X.env = [(false, eval a X.env)] := by rfl)
    (hs2 : ∀ x, foldedSetIterable (.Call (.Name "range" p0) [a] [] p1) X.env x = pure x := by intro _; rfl) : DS X W (.For t (.Call (.Name "range" p0) [a] [] p1) sts [] pos) (forR1 tg B f) := by
  obtain ⟨te, p, k⟩ := h
  obtain ⟨g', p2, k2⟩ := hg
  obtain ⟨tb, p3, k3⟩ := hb
  refine ⟨_, ps_for C.po C.calm (pi_range1 hgl hm (pa_cons p pa_nil hs) hs) p2 p3 hs2, fun A ρ G H σ D S h => ?_⟩
  refine k ρ G H σ _ S.gh S.slots ((PostS.run S h).imp fun t ht v G1 H1 fp g1 o c => ?_)
  cases q : intT t with
  | none => simp only [q] at ht; exact ht.elim
  | some j =>
    simp only [q] at ht
    by_cases hj : small62 j = true
    · simp only [hj, if_true] at ht
      have := intT_own q o
      subst this
      simp only [small62, decide_eq_true_eq] at hj
      refine ⟨j, rfl, hj.1, hj.2, ?_⟩
      have := for_rng k2 k3 (S.grow g1) ht
      simpa using this
    · simp only [hj] at ht; exact ht.elim
theorem ds_forR2 {a b : Expr} {p0 p1 : Pos} {f f' : FE} {fr' : Bool} (C : Ctx X W) (hgl : Gl X "range") (hm : X.mg "range" = none) (h : DE fr X W a f) (h' : DE fr' X W b f') (hg : DG X t tg) (hb : DSs X W sts B) (hs : starEach [a, b] X.env = [(false, eval a X.env), (false, eval b X.env)] := by rfl) (hs3 : starEach [b] X.env = [(false, eval b X.env)] := by rfl)
    (hs2 : ∀ x, foldedSetIterable (.Call (.Name "range" p0) [a, b] [] p1) X.env x = pure x := by intro _; rfl) : DS X W (.For t (.Call (.Name "range" p0) [a, b] [] p1) sts [] pos) (forR2 tg B f f') := by
  obtain ⟨te, p, k⟩ := h
  obtain ⟨te', p', k'⟩ := h'
  obtain ⟨g', p2, k2⟩ := hg
  obtain ⟨tb, p3, k3⟩ := hb
  refine ⟨_, ps_for C.po C.calm (pi_range2 hgl hm (pa_cons p (pa_cons p' pa_nil hs3) (by rw [hs, hs3])) hs hs3) p2 p3 hs2, fun A ρ G H σ D S h => ?_⟩
  refine k ρ G H σ _ S.gh S.slots ((PostS.run S h).imp fun t ht v G1 H1 fp g1 o c => ?_)
  have S1 := S.grow g1
  refine k' ρ G1 H1 σ _ S1.gh S1.slots ((PostS.run S1 ht).imp fun t' ht v' G2 H2 fp' g2 o' c' => ?_)
  cases q : intT t with
  | none => simp only [q] at ht; exact ht.elim
  | some i =>
    cases q' : intT t' with
    | none => simp only [q, q'] at ht; exact ht.elim
    | some j =>
      simp only [q, q'] at ht
      by_cases hj : (small62 i && small62 j) = true
      · simp only [hj, if_true] at ht
        have e1 := intT_own q o
        have e2 := intT_own q' o'
        subst e1 e2
        simp only [small62, Bool.and_eq_true, decide_eq_true_eq] at hj
        exact ⟨i, j, rfl, ⟨hj.1.1, hj.1.2, hj.2.1, hj.2.2⟩, for_rng k2 k3 (S1.grow g2) ht⟩
      · simp only [hj] at ht; exact ht.elim

/-! ### while -/
def whileN (c : FB) (B : FS) : Nat → FS
  | 0, _ => none
  | n + 1, ρ => runE (c ρ) ρ fun b => if b then (match B ρ with
      | some (.nx ρ2) => whileN c B n ρ2
      | some (.ct ρ2) => whileN c B n ρ2
      | some (.bk ρ2) => some (.nx ρ2)
      | o => o) else some (.nx ρ)
/-- some number of turns is enough -/
noncomputable def whileF (c : FB) (B : FS) : FS := fun ρ => by classical exact if h : ∃ n, (whileN c B n ρ).isSome then whileN c B h.choose ρ else none
theorem whileN_mono (c : FB) (B : FS) : ∀ (n : Nat) (ρ : Env) (o : Out), whileN c B n ρ = some o → whileN c B (n + 1) ρ = some o
  | 0, ρ, o, h => by simp [whileN] at h
  | n + 1, ρ, o, h => by
    rw [whileN] at h ⊢
    cases q : c ρ with
    | none => rw [q] at h; exact h
    | some u =>
      rw [q] at h
      cases u with
      | exc x => exact h
      | ok b =>
        simp only [runE_ok] at h ⊢
        cases b with
        | false => exact h
        | true =>
          simp only [if_true] at h ⊢
          cases q2 : B ρ with
          | none => simp only [q2] at h; cases h
          | some o2 =>
            simp only [q2] at h
            cases o2 with
            | nx ρ2 => exact whileN_mono c B n ρ2 o h
            | ct ρ2 => exact whileN_mono c B n ρ2 o h
            | bk ρ2 => exact h
            | rt t ρ2 => exact h
            | exc x ρ2 => exact h
theorem whileN_le {c : FB} {B : FS} {n m : Nat} {ρ : Env} {o : Out} (h : whileN c B n ρ = some o) (hl : n ≤ m) : whileN c B m ρ = some o := by
  induction hl with
  | refl => exact h
  | step _ ih => exact whileN_mono _ _ _ _ _ ih
theorem whileF_of {c : FB} {B : FS} {n : Nat} {ρ : Env} {o : Out} (h : whileN c B n ρ = some o) : whileF c B ρ = some o := by
  unfold whileF
  have hx : ∃ n, (whileN c B n ρ).isSome := ⟨n, by rw [h]; rfl⟩
  rw [dif_pos hx]
  cases q : whileN c B hx.choose ρ with
  | none => have := hx.choose_spec; rw [q] at this; cases this
  | some o' =>
    have h1 := whileN_le q (Nat.le_max_left hx.choose n)
    have h2 := whileN_le h (Nat.le_max_right hx.choose n)
    rw [h1] at h2
    exact h2
theorem whileF_ex {c : FB} {B : FS} {ρ : Env} {o : Out} (h : whileF c B ρ = some o) : ∃ n, whileN c B n ρ = some o := by
  unfold whileF at h
  by_cases hx : ∃ n, (whileN c B n ρ).isSome
  · rw [dif_pos hx] at h; exact ⟨_, h⟩
  · rw [dif_neg hx] at h; cases h
/-- one turn -/
theorem whileF_eq (c : FB) (B : FS) (ρ : Env) : whileF c B ρ = runE (c ρ) ρ fun b => if b then (match B ρ with
      | some (.nx ρ2) => whileF c B ρ2
      | some (.ct ρ2) => whileF c B ρ2
      | some (.bk ρ2) => some (.nx ρ2)
      | o => o) else some (.nx ρ) := by
  cases q : c ρ with
  | none =>
    cases h : whileF c B ρ with
    | none => rfl
    | some o =>
      obtain ⟨n, e⟩ := whileF_ex h
      cases n with
      | zero => cases e
      | succ n => rw [whileN, q] at e; cases e
  | some u =>
    cases u with
    | exc x => exact whileF_of (n := 1) (by rw [whileN, q]; rfl)
    | ok b =>
      cases b with
      | false => exact whileF_of (n := 1) (by rw [whileN, q]; rfl)
      | true =>
        simp only [runE_ok, if_true]
        have go : ∀ ρ2, (∀ n, whileN c B (n + 1) ρ = whileN c B n ρ2) → whileF c B ρ = whileF c B ρ2 := fun ρ2 k => by
          cases h : whileF c B ρ2 with
          | some o =>
            obtain ⟨n, e⟩ := whileF_ex h
            exact whileF_of (n := n + 1) (by rw [k]; exact e)
          | none =>
            cases h' : whileF c B ρ with
            | none => rfl
            | some o =>
              obtain ⟨n, e⟩ := whileF_ex h'
              cases n with
              | zero => cases e
              | succ n => rw [k] at e; rw [whileF_of e] at h; cases h
        have un : ∀ o, (∀ n, whileN c B (n + 1) ρ = o) → whileF c B ρ = o := fun o k => by
          cases o with
          | some o => exact whileF_of (n := 1) (k 0)
          | none =>
            cases h' : whileF c B ρ with
            | none => rfl
            | some o =>
              obtain ⟨n, e⟩ := whileF_ex h'
              cases n with
              | zero => cases e
              | succ n => rw [k] at e; cases e
        cases q2 : B ρ with
        | none => exact un _ fun n => by rw [whileN, q]; simp [q2]
        | some o2 =>
          cases o2 with
          | nx ρ2 => exact go ρ2 fun n => by rw [whileN, q]; simp [q2]
          | ct ρ2 => exact go ρ2 fun n => by rw [whileN, q]; simp [q2]
          | bk ρ2 => exact un _ fun n => by rw [whileN, q]; simp [q2]
          | rt t ρ2 => exact un _ fun n => by rw [whileN, q]; simp [q2]
          | exc x ρ2 => exact un _ fun n => by rw [whileN, q]; simp [q2]
theorem ds_while {c : Expr} {g : FB} (C : Ctx X W) (hc : DT X W c g) (hb : DSs X W sts B) : DS X W (.While c sts [] pos) (whileF g B) := by
  obtain ⟨tc, p, k⟩ := hc
  obtain ⟨tb, p3, k3⟩ := hb
  refine ⟨_, ps_while C.po p p3, fun A ρ G H σ D S h => ?_⟩
  cases q : whileF g B ρ with
  | none => rw [q] at h; exact h.elim
  | some o =>
    obtain ⟨n, e⟩ := whileF_ex q
    rw [q, ← e] at h
    refine ⟨fun m σ H => ∃ ρi G', Stt X.K A G' H σ ρi ∧ PostS X.K W A D (whileN g B m ρi), ⟨n, ρ, G, S, h⟩, ?_⟩
    rintro m σ H ⟨ρi, G', S', hp⟩
    cases m with
    | zero => exact hp.elim
    | succ m =>
      rw [whileN] at hp
      refine k ρi G' H σ _ S'.gh S'.slots ((PostS.run S' hp).imp fun b hb G1 H1 g1 => ?_)
      cases b with
      | false => exact hb σ G1 H1 (S'.grow g1)
      | true =>
        rw [if_pos rfl] at hb ⊢
        refine ⟨fun σ' H' => ∃ ρi G', Stt X.K A G' H' σ' ρi ∧ PostS X.K W A D (whileN g B m ρi), fun σ' H' ⟨ρ', G', z⟩ => ⟨m, Nat.lt_succ_self m, ρ', G', z⟩, ?_⟩
        refine k3 A ρi G1 H1 σ _ (S'.grow g1) ?_
        cases q2 : B ρi with
        | none => simp only [q2] at hb; exact hb
        | some o2 =>
          simp only [q2] at hb
          cases o2 with
          | nx ρ2 => exact fun σ' G' H' S2 => ⟨ρ2, G', S2, hb⟩
          | ct ρ2 => exact fun σ' G' H' S2 => ⟨ρ2, G', S2, hb⟩
          | bk ρ2 => exact hb
          | rt t ρ2 => exact hb
          | exc x ρ2 => exact hb
end
end DV

namespace DV
open PySem PySem.Spec PyProof.Rows L2

/-! ## defs -/
abbrev FD := List D → Option (EO T)
/-- the promise: called with what reads as ds, it answers F ds, or raises as F says -/
def spD (n : Nat) (K : PySem.W.Frag) (F : FD) : Sp := fun vs H Q E => ∃ G ds, ds.length = n ∧ Same G H ∧ RepL K G ds vs ∧ Post K (fun c d _ H => E c d H) G H [] (OkE K true G H Q) (F ds)
theorem spD_len {n : Nat} {K : PySem.W.Frag} {F : FD} (vs : List V) (H : Hp) (Q : VK) (E : XK) (h : spD n K F vs H Q E) : vs.length = n := by
  obtain ⟨G, ds, hn, s, r, _⟩ := h
  rw [RepL.length _ _ r, hn]
def entry (n : Nat) (ds : List D) : Env := ds.map (fun d => some (.sh d)) ++ List.replicate (n - ds.length) none
def outE : Option Out → Option (EO T)
  | some (.rt t _) => some (.ok t)
  | some (.nx _) => some (.ok (.sh .non))
  | some (.exc x _) => some (.exc x)
  | _ => none
/-- a def's function from its body's -/
def fnF (n : Nat) (F : FS) : FD := fun ds => outE (F (entry n ds))
theorem entry_slots {K : PySem.W.Frag} {G H : Hp} : ∀ {ds : List D} {vs : List V} {k : Nat}, RepL K G ds vs → SlotsD K G H (vs.map some ++ List.replicate k none) (ds.map (fun d => some (.sh d)) ++ List.replicate k none) []
  | [], vs, k, h => by
    simp only [RepL] at h
    subst h
    induction k with
    | zero => rfl
    | succ k ih => exact ⟨[], [], rfl, rfl, ih⟩
  | d :: ds, vs, k, h => by
    simp only [RepL] at h
    obtain ⟨x, r, e, h1, h2⟩ := h
    subst e
    exact ⟨[], [], rfl, ⟨x, rfl, by simp only [Own]; exact ⟨trivial, h1⟩⟩, entry_slots h2⟩
theorem fn_ok {P : Program} {w : World} {K : PySem.W.Frag} {mg : Str → Option Value} {base : Heap} {x qual : Str} {st : Stmt} {f : Addr} {fd : FuncData} {N ps : List Str} {k : Nat} {F : FS} (Fn : Fun K x qual st f fd) (S : FnScope N ps (defScope st))
    (body : ∀ (cdv : Value) (A : Around) (outer : List PySem.Env) (s : Shared) (H : Hp) (E : XK), Room k (A.deeper (envOfC qual (defScope st) s.heap.objs.size f cdv)) →
      Ctx (cxOf (L2.CX P w) P w K mg base N qual (defScope st) f cdv A outer s H E) (fun c d _ H => E c d H) → DSs (cxOf (L2.CX P w) P w K mg base N qual (defScope st) f cdv A outer s H E) (fun c d _ H => E c d H) (defBody st) F) :
    FnOk P w K mg base (L2.CX P w) (k + 1) f fd ps (spD ps.length K (fnF N.length F)) := by
  refine Fn.okX S (fun vs H Q E h => spD_len vs H Q E h) (fun cdv A outer s H vs Q E hr h => ?_)
  obtain ⟨t, p, kk⟩ := body cdv A outer s H E hr ⟨takes_of rfl rfl rfl rfl, passes_of rfl, rfl, S.nd⟩
  obtain ⟨G, ds, hn, sg, r, h⟩ := h
  have hl : vs.length = ds.length := RepL.length _ _ r
  refine ⟨t, p, ?_⟩
  have S0 : Stt K ⟨G, H, []⟩ G H (L2.start N vs) (entry N.length ds) := ⟨sg, Same.refl G, fun p o e _ => e, fun p o _ _ e => e, [], [], by unfold L2.start entry; rw [hl]; exact entry_slots r, by simp [OwnL], by simp, by simp⟩
  refine kk ⟨G, H, []⟩ (entry N.length ds) G H (L2.start N vs) _ S0 ?_
  unfold fnF at h
  have gr : ∀ {σ' : St} {ρ' : Env} {G' H' : Hp} {ts : List T} {vs : List V}, SttV K ⟨G, H, []⟩ G' H' σ' ρ' ts vs → Grow G H G' H' := fun S' => ⟨S'.gg, fun p o e => S'.hh p o e (by simp), S'.gh, fun p o e n => S'.n p o e (by simp) n⟩
  cases q : F (entry N.length ds) with
  | none => rw [q] at h; exact h.elim
  | some o =>
    rw [q] at h
    cases o with
    | rt t ρ =>
      intro v σ' G' H' S'
      obtain ⟨fp, f', a, b, cc, d⟩ := S'.own
      obtain ⟨f1, f2, ef, o, b2⟩ := OwnL.cons_iff.mp b
      have : f2 = [] := by simp only [OwnL] at b2; exact b2.2
      subst this
      have ef' : f' = f1 := by rw [ef, List.append_nil]
      subst ef'
      refine h v G' H' f' (gr S') o (And.intro (fun p hp => (d p (by simp [hp])).1) fun _ => ⟨(List.nodup_append.mp cc).2.1, fun p hp => ?_⟩)
      rcases (d p (by simp [hp])).2 with z | z
      · exact z
      · simp at z
    | nx ρ =>
      intro σ' G' H' S'
      exact h .non G' H' [] (gr S') (by simp [Own, Rep]) .nil
    | exc x ρ =>
      intro d σ' G' H' S' ha
      exact h d G' H' (gr S') ha
    | bk ρ => exact h.elim
    | ct ρ => exact h.elim

/-! ### canonical readings -/
def canE (fr : Bool) (K : PySem.W.Frag) (W : WX) (f : FE) : TE := fun σ H Q => ∃ ρ G, Same G H ∧ Slots K G H σ ρ ∧ Post K W G H σ (OkE K fr G H Q) (f ρ)
def canT (K : PySem.W.Frag) (W : WX) (f : FB) : TT := fun σ H Q => ∃ ρ G, Same G H ∧ Slots K G H σ ρ ∧ Post K W G H σ (OkB G H Q) (f ρ)
theorem DE.can {fr : Bool} {X : Cx} {W : WX} {e : Expr} {f : FE} (h : DE fr X W e f) : PE X e (canE fr X.K W f) := by
  obtain ⟨te, p, k⟩ := h
  exact ⟨fun pins s σ H Q I ⟨ρ, G, s1, s2, q⟩ => p.run pins s σ H Q I (k ρ G H σ Q s1 s2 q)⟩
theorem DT.can {X : Cx} {W : WX} {e : Expr} {f : FB} (h : DT X W e f) : PT X e (canT X.K W f) := by
  obtain ⟨te, p, k⟩ := h
  exact ⟨fun pins s σ H Q I ⟨ρ, G, s1, s2, q⟩ => p.run pins s σ H Q I (k ρ G H σ Q s1 s2 q)⟩

/-! ### calls -/
section
variable {X : Cx} {W : WX} {fr : Bool} {e : Expr} {es : List Expr} {pos : Pos} {f : FE} {g : FA}
def callF (F : FD) (g : FA) : FE := fun ρ => bindE (g ρ) fun ts => F (T.dl ts)
theorem T.dl_length : ∀ ts : List T, (T.dl ts).length = ts.length
  | [] => rfl
  | t :: ts => by simp [T.dl, T.dl_length ts]
/-- a promised def called with these values -/
theorem call_ok {K : PySem.W.Frag} {n : Nat} {F : FD} {G H G1 H1 : Hp} {σ : St} {Q : VK} {ts : List T} {vs : List V} {fp : List Addr} (s : Grow G H G1 H1) (o : OwnL K G1 H1 ts vs fp) (c : Clean true H G1 fp) (hn : ts.length = n)
    (h : Post K W G H σ (OkE K fr G H Q) (F (T.dl ts))) : spD n K F vs H1 Q (WE W σ) := by
  have gz : Grow G H (frzAt G1 H1 fp) H1 := s.frz (c.2 rfl).2
  refine ⟨frzAt G1 H1 fp, T.dl ts, by rw [T.dl_length, hn], gz.gh, o.frozen s.gh, ?_⟩
  cases q : F (T.dl ts) with
  | none => rw [q] at h; exact h
  | some u =>
    rw [q] at h
    cases u with
    | ok t => exact fun v G' H' f g o c => h v G' H' f (gz.trans g) o (Clean.weak (And.intro c.1 fun _ => ⟨(c.2 rfl).1, fun p hp => gz.h.free ((c.2 rfl).2 p hp)⟩))
    | exc x => exact fun d G' H' g e => h d G' H' (gz.trans g) e
theorem de_call {x : Str} {p : Pos} {k n : Nat} {fa : Addr} {fd : FuncData} {ps : List Str} {F : FD} (C : Ctx X W) (Fo : FnOk X.prog X.w X.K X.mg X.base (L2.CX X.prog X.w) k fa fd ps (spD n X.K F)) (hr : Room k X.A) (hm : X.mg x = some (.ref fa)) (hk : PySem.W.keepIn X.K (.ref fa) = true) (hb : Binds X.K fd ps [])
    (ha : DA true X W (e :: es) g) (hn : ∀ ρ ts, g ρ = some (.ok ts) → ts.length = n) (hg : Gl X x := by rfl) (hdb : (x == ("__debug__" : Str)) = false := by decide) (he : starEach (e :: es) X.env = (false, eval e X.env) :: starEach es X.env := by rfl) (hpl : (backTo pos (starEach es X.env)).any (·.1) = false := by rfl) :
    DE true X W (.Call (.Name x p) (e :: es) [] pos) (callF F g) := by
  obtain ⟨ta, p1, k1⟩ := ha
  refine ⟨_, pe_callS (E := fun σ => WE W σ) Fo hr hg hm hk hb (fun σ => passAt C.tk σ) p1 hdb he hpl, fun ρ G H σ Q s sl h => ?_⟩
  have h1 := h.bind
  cases q : g ρ with
  | none => rw [q] at h1; exact h1.elim
  | some u =>
    have hn' : ∀ ts, u = .ok ts → ts.length = n := fun ts eu => hn ρ ts (by rw [q, eu])
    refine k1 ρ G H σ _ s sl ?_
    rw [q] at h1 ⊢
    cases u with
    | exc x => exact h1
    | ok ts => exact fun vs G1 H1 fp g1 o c => call_ok g1 o c (hn' ts rfl) h1
theorem consA_len {f : FE} {g : FA} {n : Nat} (h : ∀ ρ ts, g ρ = some (.ok ts) → ts.length = n) : ∀ ρ ts, consA f g ρ = some (.ok ts) → ts.length = n + 1 := fun ρ ts e => by
  unfold consA at e
  cases q : f ρ with
  | none => rw [q] at e; cases e
  | some u =>
    rw [q] at e
    cases u with
    | exc x => cases e
    | ok t =>
      rw [bindE_ok] at e
      cases q2 : g ρ with
      | none => rw [q2] at e; cases e
      | some u2 =>
        rw [q2] at e
        cases u2 with
        | exc x => cases e
        | ok ts' => cases e; rw [List.length_cons, h ρ ts' q2]
theorem nilA_len : ∀ ρ ts, nilA ρ = some (.ok ts) → ts.length = 0 := fun ρ ts e => by cases e; rfl

/-! ### comprehensions -/
def wipeE (ρ : Env) : List Nat → Env
  | [] => ρ
  | v :: vs => (wipeE ρ vs).set v none
/-- a target's store, seen from an expression -/
def GOKc (vs : List Nat) (K : PySem.W.Frag) (g : TG) (tg : T → FS) : Prop := ∀ ρ G H σ d v (Q : St → Hp → Prop), Same G H → Slots K G H σ ρ → Rep K G d v → (∃ ρ', tg (.sh d) ρ = some (.nx ρ') ∧ ∀ σ', Slots K G H σ' ρ' → wipe σ' vs = wipe σ vs → Q σ' H) → g v σ H Q
def canG (vs : List Nat) (K : PySem.W.Frag) (tg : T → FS) : TG := fun v σ H Q => ∃ ρ G d, Same G H ∧ Slots K G H σ ρ ∧ Rep K G d v ∧ (∃ ρ', tg (.sh d) ρ = some (.nx ρ') ∧ ∀ σ', Slots K G H σ' ρ' → wipe σ' vs = wipe σ vs → Q σ' H)
def DGc (vs : List Nat) (X : Cx) (e : Expr) (tg : T → FS) : Prop := PG X e (canG vs X.K tg)
theorem DGc.mk {vs : List Nat} {g : TG} {tg : T → FS} (p : PG X e g) (k : GOKc vs X.K g tg) : DGc vs X e tg :=
  ⟨fun pins s σ H v u Q I r ⟨ρ, G, d, s1, s2, r1, h⟩ => p.run pins s σ H v u Q I r (k ρ G H σ d v Q s1 s2 r1 h)⟩
theorem wipe_set {σ : St} {i : Nat} {o : Option V} : ∀ {vs : List Nat}, i ∈ vs → wipe (σ.set i o) vs = wipe σ vs
  | v :: vs, h => by
    unfold wipe
    by_cases hv : i ∈ vs
    · rw [wipe_set hv]
    · have e : i = v := by
        rcases List.mem_cons.mp h with h | h
        · exact h
        · exact absurd h hv
      subst e
      have go : ∀ ws : List Nat, i ∉ ws → wipe (σ.set i o) ws = (wipe σ ws).set i o := fun ws => by
        induction ws with
        | nil => intro _; rfl
        | cons w ws ih =>
          intro hw
          simp only [List.mem_cons, not_or] at hw
          unfold wipe
          rw [ih hw.2, List.set_comm _ _ hw.1]
      rw [go vs hv, List.set_set]
theorem Slots.wipe {K : PySem.W.Frag} {G H : Hp} {σ : St} {ρ : Env} (s : Slots K G H σ ρ) : ∀ vs : List Nat, Slots K G H (L2.wipe σ vs) (wipeE ρ vs)
  | [] => s
  | v :: vs => And.intro (by have := (Slots.wipe s vs).1; simp only [L2.wipe, wipeE, List.length_set]; exact this) fun i t e => by
    have ih := (Slots.wipe s vs).2
    unfold wipeE at e
    by_cases hi : v = i
    · subst hi
      by_cases hv : v < (wipeE ρ vs).length
      · rw [List.getElem?_set_self hv] at e; cases e
      · rw [List.getElem?_eq_none (by simpa using hv)] at e; cases e
    · rw [List.getElem?_set_ne hi] at e
      obtain ⟨x, fp, a, b⟩ := ih i t e
      refine ⟨x, fp, ?_, b⟩
      unfold L2.wipe
      rw [List.getElem?_set_ne hi]
      exact a
theorem Slots.set {K : PySem.W.Frag} {G H : Hp} {σ : St} {ρ : Env} {i : Nat} {d : D} {v : V} (s : Slots K G H σ ρ) (r : Rep K G d v) : Slots K G H (σ.set i (some v)) (ρ.set i (some (.sh d))) := And.intro (by simp only [List.length_set]; exact s.1) fun j t e => by
  by_cases hi : i = j
  · subst hi
    by_cases hv : i < ρ.length
    · rw [List.getElem?_set_self hv] at e
      cases e
      exact ⟨v, [], by rw [List.getElem?_set_self (by rw [s.1]; exact hv)], by simp only [Own]; exact ⟨trivial, r⟩, fun _ h => by cases h⟩
    · rw [List.getElem?_eq_none (by simpa using hv)] at e; cases e
  · rw [List.getElem?_set_ne hi] at e ⊢
    exact s.2 j t e
def compL (tg : T → FS) (c : FB) (f : FE) (ρ : Env) : List D → Option (List T)
  | [] => some []
  | d :: ds => match tg (.sh d) ρ with
    | some (.nx ρ1) => (match c ρ1 with
      | some (.ok true) => (match f ρ1 with
        | some (.ok t) => (compL tg c f ρ ds).map (t :: ·)
        | _ => none)
      | some (.ok false) => compL tg c f ρ ds
      | _ => none)
    | _ => none
def compZ (tg : T → FS) (c : FB) (f : FE) (ρ : Env) (ds : List D) : Option T := (compL tg c f ρ ds).bind fun ts => if ts.length < sizeLine then some (.lst ts) else none
def yesB : FB := fun _ => some (.ok true)
/-- W of the block: nothing is let out -/
abbrev W0 : WX := fun _ _ _ _ => False
/-- behind some turns -/
structure CompAt (K : PySem.W.Frag) (G0 H0 G H : Hp) (D0 : Addr) (ts : List T) : Prop where
  gr : Grow G0 H0 G H
  free : H0 D0 = none
  freeG : G D0 = none
  acc : ∃ acc fp, H D0 = some (.lst acc) ∧ OwnL K G H ts acc fp ∧ Clean true H0 G fp ∧ D0 ∉ fp
theorem Post.okOf {K : PySem.W.Frag} {α : Type} {G H : Hp} {σ : St} {ok : α → Prop} {o : Option (EO α)} {a : α} (e : o = some (.ok a)) (h : ok a) : Post K W G H σ ok o := by rw [e]; exact h
theorem comp_step {K : PySem.W.Frag} {tg : T → FS} {c : FB} {f : FE} {vs : List Nat} {ρ : Env} {σ : St} {G0 H0 G H : Hp} {D0 : Addr} {ts : List T} {d : D} {ds : List D} {x : V} {zs : List T} {N : Hp → Prop}
    (C : CompAt K G0 H0 G H D0 ts) (sl : Slots K G0 H0 σ ρ) (r : Rep K G0 d x) (e : compL tg c f (wipeE ρ vs) (d :: ds) = some zs) (hsz : (ts ++ zs).length < sizeLine)
    (k : ∀ G' H' ts' zs', CompAt K G0 H0 G' H' D0 ts' → compL tg c f (wipeE ρ vs) ds = some zs' → ts' ++ zs' = ts ++ zs → N H') :
    canG vs K tg x (L2.wipe σ vs) H fun σ2 H2 => L2.wipe σ2 vs = L2.wipe σ vs ∧ canT K W0 c σ2 H2 fun b H3 =>
      if b = true then canE true K W0 f σ2 H3 fun y H4 => ∃ acc, H4 D0 = some (.lst acc) ∧ acc.length < sizeLine ∧ N (upd H4 D0 (.lst (acc ++ [y]))) else N H3 := by
  obtain ⟨gr, hf, hfg, acc, fp, ha, ho, hc, hd⟩ := C
  have s1 : Slots K G H (L2.wipe σ vs) (wipeE ρ vs) := (sl.wipe vs).grow gr
  unfold compL at e
  cases q : tg (.sh d) (wipeE ρ vs) with
  | none => rw [q] at e; cases e
  | some o =>
    rw [q] at e
    cases o with
    | nx ρ1 =>
      refine ⟨wipeE ρ vs, G, d, gr.gh, s1, Rep.mono gr.g _ _ r, ρ1, q, fun σ2 s2 hw => ⟨by rw [hw]; induction vs with
        | nil => rfl
        | cons v vs ih =>
          have idem : ∀ (ws : List Nat) (τ : St), L2.wipe (L2.wipe τ ws) ws = L2.wipe τ ws := fun ws => by
            induction ws with
            | nil => intro τ; rfl
            | cons w ws ih2 =>
              intro τ
              show (L2.wipe ((L2.wipe τ ws).set w none) ws).set w none = (L2.wipe τ ws).set w none
              by_cases hw : w ∈ ws
              · rw [wipe_set hw, ih2]
              · have go : ∀ us : List Nat, w ∉ us → ∀ τ : St, L2.wipe (τ.set w none) us = (L2.wipe τ us).set w none := fun us => by
                  induction us with
                  | nil => intro _ _; rfl
                  | cons u us ih3 =>
                    intro hu τ
                    simp only [List.mem_cons, not_or] at hu
                    show (L2.wipe (τ.set w none) us).set u none = ((L2.wipe τ us).set u none).set w none
                    rw [ih3 hu.2, List.set_comm _ _ hu.1]
                rw [go ws hw, ih2, List.set_set]
          exact idem (v :: vs) σ, ?_⟩⟩
      simp only at e
      cases q2 : c ρ1 with
      | none => rw [q2] at e; cases e
      | some u =>
        rw [q2] at e
        cases u with
        | exc x => cases e
        | ok b =>
          refine ⟨ρ1, G, gr.gh, s2, Post.okOf q2 fun G1 H1 g1 => ?_⟩
          have keepA : OwnL K G1 H1 ts acc fp := ho.grow g1
          have domD : ∀ p ∈ fp, ∃ o, H p = some o := OwnL.dom _ _ _ ho
          have C1 : CompAt K G0 H0 G1 H1 D0 ts := ⟨gr.trans g1, hf, g1.n _ _ ha hfg, acc, fp, g1.h _ _ ha, keepA, And.intro (fun p hp => by obtain ⟨o, eo⟩ := domD p hp; exact g1.n p o eo (hc.1 p hp)) hc.2, hd⟩
          cases b with
          | false =>
            simp only at e
            exact k G1 H1 ts zs C1 e rfl
          | true =>
            simp only [if_true] at e ⊢
            cases q3 : f ρ1 with
            | none => rw [q3] at e; cases e
            | some u3 =>
              rw [q3] at e
              cases u3 with
              | exc x => cases e
              | ok t =>
                simp only at e
                cases q4 : compL tg c f (wipeE ρ vs) ds with
                | none => rw [q4] at e; cases e
                | some zs' =>
                  rw [q4] at e
                  simp only [Option.map_some, Option.some.injEq] at e
                  subst e
                  refine ⟨ρ1, G1, g1.gh, s2.grow g1, Post.okOf q3 fun y G2 H2 f2 g2 o2 c2 => ?_⟩
                  have hl := OwnL.length _ _ _ ho
                  refine ⟨acc, g2.h _ _ (g1.h _ _ ha), by rw [List.length_append] at hsz; omega, ?_⟩
                  have hD1 : H1 D0 = some (.lst acc) := g1.h _ _ ha
                  have hD2 : H2 D0 = some (.lst acc) := g2.h _ _ hD1
                  have nD : D0 ∉ f2 := fun hp => by rw [(c2.2 rfl).2 _ hp] at hD1; cases hD1
                  have hG2 : G2 D0 = none := g2.n _ _ hD1 (g1.n _ _ ha hfg)
                  have su : Same H0 (upd H2 D0 (.lst (acc ++ [y]))) := fun p o eo => by
                    rw [upd_ne (ne_of_none eo hf)]
                    exact g2.h _ _ (g1.h _ _ (gr.h _ _ eo))
                  have su2 : Same G2 (upd H2 D0 (.lst (acc ++ [y]))) := fun p o eo => by
                    rw [upd_ne (ne_of_none eo hG2)]
                    exact g2.gh _ _ eo
                  refine k G2 _ (ts ++ [t]) zs' ⟨⟨gr.g.trans (g1.g.trans g2.g), su, su2, fun p o eo n => g2.n p o (g1.h _ _ (gr.h _ _ eo)) (g1.n p o (gr.h _ _ eo) (gr.n p o eo n))⟩, hf, hG2, acc ++ [y], fp ++ f2, upd_same, ?_, ?_, ?_⟩ q4 (by simp)
                  · have ka : OwnL K G2 (upd H2 D0 (.lst (acc ++ [y]))) ts acc fp := OwnL.mono (g1.g.trans g2.g) _ _ _ (fun p hp => by
                      obtain ⟨o, eo⟩ := domD p hp
                      rw [upd_ne (show p ≠ D0 from fun z => hd (by rw [← z]; exact hp)), g2.h _ _ (g1.h _ _ eo), eo]) ho
                    refine OwnL.append ka ?_
                    simp only [OwnL]
                    exact ⟨y, [], f2, [], rfl, by simp, Own.mono (Same.refl _) _ _ _ (fun p hp => upd_ne (show p ≠ D0 from fun z => nD (by rw [← z]; exact hp))) o2, rfl, rfl⟩
                  · exact Clean.append hc domD gr ⟨g1.g.trans g2.g, g1.h.trans g2.h, g2.gh, fun p o eo n => g2.n p o (g1.h _ _ eo) (g1.n p o eo n)⟩ (And.intro c2.1 fun _ => ⟨(c2.2 rfl).1, fun p hp => g1.h.free ((c2.2 rfl).2 p hp)⟩)
                  · rw [List.mem_append]
                    rintro (z | z)
                    · exact hd z
                    · exact nD z
    | _ => cases e
def compE (view : D → Option (List D)) (vs : List Nat) (tg : T → FS) (c : FB) (f : FE) (fi : FE) : FE := fun ρ => bindE (fi ρ) fun t => liftO ((view t.d).bind fun ds => compZ tg c f (wipeE ρ vs) ds)
theorem comp_start {K : PySem.W.Frag} {G H : Hp} {D0 : Addr} (s : Same G H) (h : H D0 = none) : CompAt K G H G (upd H D0 (.lst [])) D0 [] :=
  ⟨Grow.alloc s h, h, s.free h, [], [], upd_same, by simp [OwnL], Clean.nil, by simp⟩
theorem comp_end {K : PySem.W.Frag} {G0 H0 G H : Hp} {D0 : Addr} {ts : List T} {Q : VK} (C : CompAt K G0 H0 G H D0 ts) (h : OkE K true G0 H0 Q (.lst ts)) : Q (.ref D0) H := by
  obtain ⟨gr, hf, hfg, acc, fp, ha, ho, hc, hd⟩ := C
  refine h (.ref D0) G H (D0 :: fp) gr ?_ (hc.cons (H1 := H) hf hfg hd)
  simp only [Own]
  exact ⟨D0, acc, fp, rfl, rfl, ha, ho⟩
variable {tg : Expr} {elt it : Expr} {ifs : List Expr} {scope : Scope} {own : List (Str × Nat)} {tf : T → FS} {c : FB} {fe : FE}
/-- the block's context, whatever its start -/
abbrev Blk (X : Cx) (scope : Scope) (R : Cx → Prop) : Prop := ∀ (s : Shared) (H : Hp) (C : Addr) (cl : List (Str × Addr)) (fp : List Addr), R (X.blk s H scope (compEnvC scope cl C X.env) fp)
theorem ctx_blk {X : Cx} {W : WX} (C : Ctx X W) {s : Shared} {H : Hp} {scope : Scope} {cenv : PySem.Env} {fp : List Addr} : Ctx (X.blk s H scope cenv fp) W0 :=
  ⟨takes0, PassesOwn.never, C.calm, C.nd⟩
def DC (X : Cx) (ifs : List Expr) (c : FB) : Prop := PTs X ifs (canT X.K W0 c)
theorem dc_nil {X : Cx} : DC X [] yesB := by
  refine ⟨fun pins s σ H Q I h => wpAny_tests_nil ⟨H, I, ?_⟩⟩
  obtain ⟨ρ, G, s1, s2, k⟩ := h
  exact k G H (Grow.refl s1)
theorem dc_one {X : Cx} {t : Expr} (h : DT X W0 t c) : DC X [t] c := pts_one h.can
theorem compE_run {K : PySem.W.Frag} {view : D → Option (List D)} {vs : List Nat} {fi : FE} {ρ : Env} {G H : Hp} {σ : St} {Q : VK} (h : Post K W G H σ (OkE K true G H Q) (compE view vs tf c fe fi ρ)) :
    Post K W G H σ (fun t => ∃ ds zs, view t.d = some ds ∧ compL tf c fe (wipeE ρ vs) ds = some zs ∧ zs.length < sizeLine ∧ OkE K true G H Q (.lst zs)) (fi ρ) := by
  refine h.bind.imp fun t ht => ?_
  obtain ⟨a, e, k⟩ := ht.lift
  cases q : view t.d with
  | none => rw [q] at e; cases e
  | some ds =>
    rw [q] at e
    simp only [Option.bind_some, compZ] at e
    cases q2 : compL tf c fe (wipeE ρ vs) ds with
    | none => rw [q2] at e; cases e
    | some zs =>
      rw [q2] at e
      simp only [Option.bind_some] at e
      by_cases hl : zs.length < sizeLine
      · rw [if_pos hl] at e
        cases e
        exact ⟨ds, zs, rfl, q2, hl, k⟩
      · rw [if_neg hl] at e; cases e
/-! ### name = [..] on one line -/
/-- an expression that may be stored as it is made -/
def DEs (X : Cx) (W : WX) (e : Expr) (f : FE) : Prop := ∃ te, PE X e te ∧ EOK true X.K W te f ∧ ∀ (i : Nat) (y : Str) (py spos : Pos), X.N[i]? = some y → X.env.scope.names.lookup y = some .local → swapsWith e (some (.Name y py)) spos.line X.env = pure true → PS X (.Assign [.Name y py] e spos) (tAsg te (gName i))
theorem DEs.de (h : DEs X W e fe) : DE true X W e fe := let ⟨te, p, k, _⟩ := h; ⟨te, p, k⟩
theorem dv_lcL {fi : FE} (C : Ctx X W) (hi : DE true X W it fi) (ok : BlkOk X.N X.env.scope scope own) (hg : Blk X scope fun Y => DGc (own.map (·.2)) Y tg tf) (ht : Blk X scope fun Y => DC Y ifs c) (he : Blk X scope fun Y => DE true Y W0 elt fe)
    (hs : ∀ x, foldedSetIterable it X.env x = pure x := by intro _; rfl) : DEs X W (.ListComp elt [⟨tg, it, ifs, 0⟩] scope pos) (compE listD (own.map (·.2)) tf c fe fi) := by
  obtain ⟨ti, p1, k1⟩ := hi
  have hpi : PI X tg _ _ := (pi_list p1)
  refine ⟨_, pe_lc (own := own) (g := canG (own.map fun p : Str × Nat => p.2) X.K tf) (tt := canT X.K W0 c) (te := canE true X.K W0 fe) C.calm C.nd hpi ok hg ht (fun s H C cl fp => (he s H C cl fp).can) hs, fun ρ G H σ Q s sl h => ?_, fun i y py spos hy hyl hsw => ps_setLc (own := own) (g := canG (own.map fun p : Str × Nat => p.2) X.K tf) (tt := canT X.K W0 c) (te := canE true X.K W0 fe) C.calm C.nd hy hyl hsw hpi ok hg ht (fun s H C cl fp => (he s H C cl fp).can) hs⟩
  refine k1 ρ G H σ _ s sl ((compE_run h).imp fun t ⟨ds, zs, q, q2, hl, k⟩ v G1 H1 fp g1 o cc => ?_)
  have gz : Grow G H (frzAt G1 H1 fp) H1 := g1.frz (cc.2 rfl).2
  obtain ⟨a, xs, rfl, hq, hr⟩ := listD_rep q (o.frozen g1.gh)
  refine ⟨a, rfl, ⟨xs, gz.gh.seq hq⟩, fun D0 hD => ?_⟩
  have hlen : xs.length = ds.length := RepL.length _ _ hr
  refine lc_list (K := X.K) (a := a) (xs := xs) (fun i H => ∃ G' ts zs', CompAt X.K (frzAt G1 H1 fp) H1 G' H D0 ts ∧ compL tf c fe (wipeE ρ (own.map (·.2))) (ds.drop i) = some zs' ∧ ts ++ zs' = zs) ⟨_, [], zs, comp_start gz.gh hD, q2, rfl⟩ ?_ ?_ ?_
  · rintro i H _ ⟨G', ts, zs', C', _⟩
    exact (C'.gr.g.trans C'.gr.gh).seq hq
  · rintro i x H hx ⟨G', ts, zs', C', e, ez⟩
    obtain ⟨d, hd, rd⟩ := RepL.get _ _ i x hr hx
    have ed : ds.drop i = d :: ds.drop (i + 1) := by
      obtain ⟨hi, e⟩ := List.getElem?_eq_some_iff.mp hd
      rw [List.drop_eq_getElem_cons hi, e]
    rw [ed] at e
    exact comp_step C' (sl.grow gz) rd e (by rw [ez]; exact hl) fun G2 H2 ts2 zs2 C2 e2 ez2 => ⟨G2, ts2, zs2, C2, e2, ez2.trans ez⟩
  · rintro H ⟨G', ts, zs', C', e, ez⟩
    rw [hlen, List.drop_length] at e
    simp only [compL, Option.some.injEq] at e
    subst e
    rw [List.append_nil] at ez
    subst ez
    exact comp_end C' (OkE.back gz k)
theorem dv_lcT {fi : FE} (C : Ctx X W) (hi : DE true X W it fi) (ok : BlkOk X.N X.env.scope scope own) (hg : Blk X scope fun Y => DGc (own.map (·.2)) Y tg tf) (ht : Blk X scope fun Y => DC Y ifs c) (he : Blk X scope fun Y => DE true Y W0 elt fe)
    (hs : ∀ x, foldedSetIterable it X.env x = pure x := by intro _; rfl) : DEs X W (.ListComp elt [⟨tg, it, ifs, 0⟩] scope pos) (compE tupD (own.map (·.2)) tf c fe fi) := by
  obtain ⟨ti, p1, k1⟩ := hi
  have hpi : PI X tg _ _ := (pi_tup p1)
  refine ⟨_, pe_lc (own := own) (g := canG (own.map fun p : Str × Nat => p.2) X.K tf) (tt := canT X.K W0 c) (te := canE true X.K W0 fe) C.calm C.nd hpi ok hg ht (fun s H C cl fp => (he s H C cl fp).can) hs, fun ρ G H σ Q s sl h => ?_, fun i y py spos hy hyl hsw => ps_setLc (own := own) (g := canG (own.map fun p : Str × Nat => p.2) X.K tf) (tt := canT X.K W0 c) (te := canE true X.K W0 fe) C.calm C.nd hy hyl hsw hpi ok hg ht (fun s H C cl fp => (he s H C cl fp).can) hs⟩
  refine k1 ρ G H σ _ s sl ((compE_run h).imp fun t ⟨ds, zs, q, q2, hl, k⟩ v G1 H1 fp g1 o cc => ?_)
  have gz : Grow G H (frzAt G1 H1 fp) H1 := g1.frz (cc.2 rfl).2
  obtain ⟨a, xs, rfl, hq, hr⟩ := tupD_rep q (o.frozen g1.gh)
  refine ⟨a, rfl, ⟨xs, Same.sqt gz.gh hq⟩, fun D0 hD => ?_⟩
  have hlen : xs.length = ds.length := RepL.length _ _ hr
  refine lc_tup (K := X.K) (a := a) (xs := xs) (fun i H => ∃ G' ts zs', CompAt X.K (frzAt G1 H1 fp) H1 G' H D0 ts ∧ compL tf c fe (wipeE ρ (own.map (·.2))) (ds.drop i) = some zs' ∧ ts ++ zs' = zs) ⟨_, [], zs, comp_start gz.gh hD, q2, rfl⟩ ?_ ?_ ?_
  · rintro i H _ ⟨G', ts, zs', C', _⟩
    exact Same.sqt (C'.gr.g.trans C'.gr.gh) hq
  · rintro i x H hx ⟨G', ts, zs', C', e, ez⟩
    obtain ⟨d, hd, rd⟩ := RepL.get _ _ i x hr hx
    have ed : ds.drop i = d :: ds.drop (i + 1) := by
      obtain ⟨hi, e⟩ := List.getElem?_eq_some_iff.mp hd
      rw [List.drop_eq_getElem_cons hi, e]
    rw [ed] at e
    exact comp_step C' (sl.grow gz) rd e (by rw [ez]; exact hl) fun G2 H2 ts2 zs2 C2 e2 ez2 => ⟨G2, ts2, zs2, C2, e2, ez2.trans ez⟩
  · rintro H ⟨G', ts, zs', C', e, ez⟩
    rw [hlen, List.drop_length] at e
    simp only [compL, Option.some.injEq] at e
    subst e
    rw [List.append_nil] at ez
    subst ez
    exact comp_end C' (OkE.back gz k)
/-- over a range -/
def rangeD (lo hi : Int) : List D := (List.range (hi - lo).toNat).map fun i => D.int (lo + (i : Nat))
noncomputable def compR (vs : List Nat) (tg : T → FS) (c : FB) (f : FE) (fa fb : FE) : FE := fun ρ => bindE (fa ρ) fun t => bindE (fb ρ) fun t' =>
  liftO (match intT t, intT t' with | some i, some j => if small62 i && small62 j then compZ tg c f (wipeE ρ vs) (rangeD i j) else none | _, _ => none)
theorem comp_rng {K : PySem.W.Frag} {vs : List Nat} {ρ : Env} {σ : St} {G H : Hp} {D0 : Addr} {lo hi : Int} {zs : List T} {Q : Hp → Prop} (hD : H D0 = none) (s : Same G H) (sl : Slots K G H σ ρ) (q2 : compL tf c fe (wipeE ρ vs) (rangeD lo hi) = some zs) (hl : zs.length < sizeLine)
    (k : ∀ G' H', CompAt K G H G' H' D0 zs → Q H') : ∃ W : Nat → Nat → Hp → Prop, (∃ m, W 0 m (upd H D0 (.lst []))) ∧ ∀ i m H, W i m H →
      ((Itr lo (hi - lo).toNat).stop i H ∧ Q H) ∨ ((Itr lo (hi - lo).toNat).go i H ∧ ∃ Nx : Hp → Prop, (∀ H', Nx H' → ∃ m', m' < m ∧ W (i + 1) m' H') ∧ ∀ x H', (Itr lo (hi - lo).toNat).yld i H x H' → canG vs K tf x (L2.wipe σ vs) H' fun σ2 H2 => L2.wipe σ2 vs = L2.wipe σ vs ∧ canT K W0 c σ2 H2 fun b H3 =>
        if b = true then canE true K W0 fe σ2 H3 fun y H4 => ∃ acc, H4 D0 = some (.lst acc) ∧ acc.length < sizeLine ∧ Nx (upd H4 D0 (.lst (acc ++ [y]))) else Nx H3) := by
  have el : (rangeD lo hi).length = (hi - lo).toNat := by simp [rangeD]
  refine lc_range (fun i H' => ∃ G' ts zs', CompAt K G H G' H' D0 ts ∧ compL tf c fe (wipeE ρ vs) ((rangeD lo hi).drop i) = some zs' ∧ ts ++ zs' = zs) ⟨_, [], zs, comp_start s hD, q2, rfl⟩ ?_ ?_
  · rintro i H hx ⟨G', ts, zs', C', e, ez⟩
    have ed : (rangeD lo hi).drop i = D.int (lo + (i : Nat)) :: (rangeD lo hi).drop (i + 1) := by
      rw [List.drop_eq_getElem_cons (by rw [el]; exact hx)]
      simp [rangeD]
    rw [ed] at e
    exact comp_step C' sl (by simp [Rep]) e (by rw [ez]; exact hl) fun G2 H2 ts2 zs2 C2 e2 ez2 => ⟨G2, ts2, zs2, C2, e2, ez2.trans ez⟩
  · rintro H ⟨G', ts, zs', C', e, ez⟩
    rw [← el, List.drop_length] at e
    simp only [compL, Option.some.injEq] at e
    subst e
    rw [List.append_nil] at ez
    subst ez
    exact k G' H C'
theorem compR_run {K : PySem.W.Frag} {vs : List Nat} {fa fb : FE} {ρ : Env} {G H : Hp} {σ : St} {Q : VK} (h : Post K W G H σ (OkE K true G H Q) (compR vs tf c fe fa fb ρ)) :
    Post K W G H σ (fun t => Post K W G H σ (fun t' => ∃ i j zs, intT t = some i ∧ intT t' = some j ∧ (-(2 ^ 62) ≤ i ∧ i < 2 ^ 62 ∧ -(2 ^ 62) ≤ j ∧ j < 2 ^ 62) ∧ compL tf c fe (wipeE ρ vs) (rangeD i j) = some zs ∧ zs.length < sizeLine ∧ OkE K true G H Q (.lst zs)) (fb ρ)) (fa ρ) := by
  refine h.bind.imp fun t ht => ht.bind.imp fun t' ht' => ?_
  obtain ⟨a, e, k⟩ := ht'.lift
  cases q : intT t with
  | none => rw [q] at e; cases e
  | some i =>
    cases q' : intT t' with
    | none => rw [q, q'] at e; cases e
    | some j =>
      simp only [q, q'] at e
      by_cases hj : (small62 i && small62 j) = true
      · rw [if_pos hj] at e
        unfold compZ at e
        cases q2 : compL tf c fe (wipeE ρ vs) (rangeD i j) with
        | none => rw [q2] at e; cases e
        | some zs =>
          rw [q2] at e
          simp only [Option.bind_some] at e
          by_cases hl : zs.length < sizeLine
          · rw [if_pos hl] at e
            cases e
            simp only [small62, Bool.and_eq_true, decide_eq_true_eq] at hj
            exact ⟨i, j, zs, rfl, rfl, ⟨hj.1.1, hj.1.2, hj.2.1, hj.2.2⟩, q2, hl, k⟩
          · rw [if_neg hl] at e; cases e
      · rw [if_neg hj] at e; cases e
theorem dv_lcR2 {a b : Expr} {p0 p1 : Pos} {fa fb : FE} {fr fr' : Bool} (C : Ctx X W) (hgl : Gl X "range") (hm : X.mg "range" = none) (ha : DE fr X W a fa) (hb : DE fr' X W b fb) (ok : BlkOk X.N X.env.scope scope own) (hg : Blk X scope fun Y => DGc (own.map (·.2)) Y tg tf) (ht : Blk X scope fun Y => DC Y ifs c) (he : Blk X scope fun Y => DE true Y W0 elt fe)
    (hs1 : starEach [a, b] X.env = [(false, eval a X.env), (false, eval b X.env)] := by rfl) (hs3 : starEach [b] X.env = [(false, eval b X.env)] := by rfl)
    (hs : ∀ x, foldedSetIterable (.Call (.Name "range" p0) [a, b] [] p1) X.env x = pure x := by intro _; rfl) : DEs X W (.ListComp elt [⟨tg, .Call (.Name "range" p0) [a, b] [] p1, ifs, 0⟩] scope pos) (compR (own.map (·.2)) tf c fe fa fb) := by
  obtain ⟨ta, pa, ka⟩ := ha
  obtain ⟨tb, pb, kb⟩ := hb
  have hpi : PI X tg (.Call (.Name "range" p0) [a, b] [] p1) _ := (pi_range2 hgl hm (pa_cons pa (pa_cons pb pa_nil hs3) (by rw [hs1, hs3])) hs1 hs3)
  refine ⟨_, pe_lc (own := own) (g := canG (own.map fun p : Str × Nat => p.2) X.K tf) (tt := canT X.K W0 c) (te := canE true X.K W0 fe) C.calm C.nd hpi ok hg ht (fun s H C cl fp => (he s H C cl fp).can) hs, fun ρ G H σ Q s sl h => ?_, fun i y py spos hy hyl hsw => ps_setLc (own := own) (g := canG (own.map fun p : Str × Nat => p.2) X.K tf) (tt := canT X.K W0 c) (te := canE true X.K W0 fe) C.calm C.nd hy hyl hsw hpi ok hg ht (fun s H C cl fp => (he s H C cl fp).can) hs⟩
  refine ka ρ G H σ _ s sl ((compR_run h).imp fun t ht v G1 H1 f1 g1 o1 c1 => ?_)
  refine kb ρ G1 H1 σ _ g1.gh (sl.grow g1) ((ht.grow g1).imp fun t' ⟨i, j, zs, q, q', hb, q2, hl, k⟩ v' G2 H2 f2 g2 o2 c2 => ?_)
  have e1 := intT_own q o1
  have e2 := intT_own q' o2
  subst e1 e2
  refine ⟨i, j, rfl, hb, fun D0 hD => comp_rng hD g2.gh ((sl.grow g1).grow g2) q2 hl fun G' H' C' => comp_end C' (OkE.back (g1.trans g2) k)⟩
theorem dv_lcR1 {a : Expr} {p0 p1 : Pos} {fa : FE} {fr : Bool} (C : Ctx X W) (hgl : Gl X "range") (hm : X.mg "range" = none) (ha : DE fr X W a fa) (ok : BlkOk X.N X.env.scope scope own) (hg : Blk X scope fun Y => DGc (own.map (·.2)) Y tg tf) (ht : Blk X scope fun Y => DC Y ifs c) (he : Blk X scope fun Y => DE true Y W0 elt fe)
    (hs1 : starEach [a] X.env = [(false, eval a X.env)] := by rfl)
    (hs : ∀ x, foldedSetIterable (.Call (.Name "range" p0) [a] [] p1) X.env x = pure x := by intro _; rfl) : DEs X W (.ListComp elt [⟨tg, .Call (.Name "range" p0) [a] [] p1, ifs, 0⟩] scope pos) (compR (own.map (·.2)) tf c fe (cst (.int 0)) fa) := by
  obtain ⟨ta, pa, ka⟩ := ha
  have hpi : PI X tg (.Call (.Name "range" p0) [a] [] p1) _ := (pi_range1 hgl hm (pa_cons pa pa_nil hs1) hs1)
  refine ⟨_, pe_lc (own := own) (g := canG (own.map fun p : Str × Nat => p.2) X.K tf) (tt := canT X.K W0 c) (te := canE true X.K W0 fe) C.calm C.nd hpi ok hg ht (fun s H C cl fp => (he s H C cl fp).can) hs, fun ρ G H σ Q s sl h => ?_, fun i y py spos hy hyl hsw => ps_setLc (own := own) (g := canG (own.map fun p : Str × Nat => p.2) X.K tf) (tt := canT X.K W0 c) (te := canE true X.K W0 fe) C.calm C.nd hy hyl hsw hpi ok hg ht (fun s H C cl fp => (he s H C cl fp).can) hs⟩
  have h2 := compR_run h
  refine ka ρ G H σ _ s sl (Post.imp (f := fa ρ) h2 fun t' ⟨i, j, zs, q, q', hb, q2, hl, k⟩ v' G2 H2 f2 g2 o2 c2 => ?_)
  have e2 := intT_own q' o2
  subst e2
  have e0 : i = 0 := by
    simp only [intT, shD, Option.bind_some, intD, Option.some.injEq] at q
    exact q.symm
  subst e0
  refine ⟨j, rfl, hb.2.2.1, hb.2.2.2, fun D0 hD => ?_⟩
  have := comp_rng (lo := 0) (hi := j) (Q := fun H => Q (.ref D0) H) hD g2.gh (sl.grow g2) q2 hl fun G' H' C' => comp_end C' (OkE.back g2 k)
  simpa using this
end
end DV

namespace DV
open PySem PySem.Spec PyProof.Rows L2

/-! ## built-in operations over data -/
def scD : D → Option V
  | .non => some .non | .bl b => some (.bl b) | .int i => some (.int i) | .str x => some (.str x) | _ => none
theorem scD_rep {K : PySem.W.Frag} {G : Hp} {d : D} {v x : V} (e : scD d = some x) (r : Rep K G d v) : v = x := by
  cases d <;> simp [scD] at e <;> subst e <;> simpa [Rep] using r
theorem rep_scD {K : PySem.W.Frag} {G : Hp} {d : D} {x : V} (e : scD d = some x) : Rep K G d x := by
  cases d <;> simp [scD] at e <;> subst e <;> simp [Rep]
/-- reading operators whose answer is a scalar -/
def OpV (K : PySem.W.Frag) (r : R2) (g : D → D → Option D) : Prop := ∀ d1 d2 d v1 v2 G H Q, g d1 d2 = some d → Same G H → Rep K G d1 v1 → Rep K G d2 v2 → (∀ x, scD d = some x → Q x H) → r v1 v2 H Q
def scT (o : Option D) : Option T := o.bind fun d => if (scD d).isSome then some (.sh d) else none
def vop (g : D → D → Option D) : T → T → Option T := fun t u => scT (g t.d u.d)
def vun (g : D → Option D) : T → Option T := fun t => scT (g t.d)
def vcall (g : List D → Option D) : List T → Option T := fun ts => scT (g (T.dl ts))
theorem scT_some {o : Option D} {t : T} (e : scT o = some t) : ∃ d x, o = some d ∧ scD d = some x ∧ t = .sh d := by
  unfold scT at e
  cases o with
  | none => cases e
  | some d =>
    simp only [Option.bind_some] at e
    cases q : scD d with
    | none => rw [q] at e; cases e
    | some x => rw [q] at e; cases e; exact ⟨d, x, rfl, q, rfl⟩
theorem Own.frozen2 {K : PySem.W.Frag} {G H : Hp} {t u : T} {v w : V} {f g : List Addr} (s : Same G H) (o : Own K G H t v f) (p : Own K G H u w g) : ∃ G', Same G' H ∧ Rep K G' t.d v ∧ Rep K G' u.d w :=
  ⟨frzAt (frzAt G H f) H g, frzAt_le (frzAt_le s), Rep.mono (frzAt_same (frzAt_le s)) _ _ (o.frozen s),
    Own.frozen (frzAt_le s) (Own.mono (frzAt_same s) _ _ _ (fun _ _ => rfl) p)⟩
theorem OpV.d {K : PySem.W.Frag} {r : R2} {g : D → D → Option D} (h : OpV K r g) : OpD K r (vop g) := by
  intro t1 t2 t v1 v2 f1 f2 G H Q e s o1 o2 k
  obtain ⟨d, x, e1, e2, rfl⟩ := scT_some e
  obtain ⟨G', s', r1, r2⟩ := Own.frozen2 s o1 o2
  exact h _ _ d v1 v2 G' H Q e1 s' r1 r2 fun y hy => k y G H [] (Grow.refl s) (by simp only [Own]; exact ⟨trivial, rep_scD hy⟩) .nil
def UnV (K : PySem.W.Frag) (r : V → Hp → VK → Prop) (g : D → Option D) : Prop := ∀ d1 d v1 G H Q, g d1 = some d → Same G H → Rep K G d1 v1 → (∀ x, scD d = some x → Q x H) → r v1 H Q
theorem UnV.d {K : PySem.W.Frag} {r : V → Hp → VK → Prop} {g : D → Option D} (h : UnV K r g) : UnD K r (vun g) := by
  intro t1 t v1 f1 G H Q e s o1 k
  obtain ⟨d, x, e1, e2, rfl⟩ := scT_some e
  exact h _ d v1 (frzAt G H f1) H Q e1 (frzAt_le s) (o1.frozen s) fun y hy => k y G H [] (Grow.refl s) (by simp only [Own]; exact ⟨trivial, rep_scD hy⟩) .nil
def CallV (K : PySem.W.Frag) (r : List V → Hp → VK → Prop) (g : List D → Option D) : Prop := ∀ ds d vs G H Q, g ds = some d → Same G H → RepL K G ds vs → (∀ x, scD d = some x → Q x H) → r vs H Q
theorem CallV.d {K : PySem.W.Frag} {r : List V → Hp → VK → Prop} {g : List D → Option D} (h : CallV K r g) : CallD K r (vcall g) := by
  intro ts t vs fp G H Q e s o1 k
  obtain ⟨d, x, e1, e2, rfl⟩ := scT_some e
  exact h _ d vs (frzAt G H fp) H Q e1 (frzAt_le s) (o1.frozen s) fun y hy => k y G H [] (Grow.refl s) (by simp only [Own]; exact ⟨trivial, rep_scD hy⟩) .nil
/-- a call that reads its arguments for good: they are frozen (fresh ones), the answer may hold parts of them -/
theorem OpD.or {K : PySem.W.Frag} {r r' : R2} {g g' : T → T → Option T} (h : OpD K r g) (h' : OpD K r' g') : OpD K (fun x y H Q => r x y H Q ∨ r' x y H Q) (fun t u => match g t u with | some z => some z | none => g' t u) := by
  intro t1 t2 t v1 v2 f1 f2 G H Q e s o1 o2 k
  cases q : g t1 t2 with
  | some z =>
    simp only [q] at e
    cases e
    exact .inl (h t1 t2 t v1 v2 f1 f2 G H Q q s o1 o2 k)
  | none =>
    simp only [q] at e
    exact .inr (h' t1 t2 t v1 v2 f1 f2 G H Q e s o1 o2 k)

theorem rep_int {K : PySem.W.Frag} {G : Hp} {i : Int} {v : V} (r : Rep K G (.int i) v) : v = .int i := by simpa [Rep] using r
theorem rep_str {K : PySem.W.Frag} {G : Hp} {i : Str} {v : V} (r : Rep K G (.str i) v) : v = .str i := by simpa [Rep] using r
theorem rep_bl {K : PySem.W.Frag} {G : Hp} {i : Bool} {v : V} (r : Rep K G (.bl i) v) : v = .bl i := by simpa [Rep] using r
section
variable {K : PySem.W.Frag}
/-! ### ints -/
def ii (g : Int → Int → Option D) : D → D → Option D
  | .int i, .int j => g i j
  | _, _ => none
theorem opv_i0 {g : Int → Int → V} {h : Int → Int → D} (e : ∀ i j, scD (h i j) = some (g i j)) : OpV K (rI0 g) (ii fun i j => some (h i j)) := by
  intro d1 d2 d v1 v2 G H Q q s r1 r2 k
  cases d1 <;> simp [ii] at q
  cases d2 <;> simp [ii] at q
  subst q
  exact ⟨_, _, rep_int r1, rep_int r2, k _ (e _ _)⟩
theorem opv_i {C : Int → Int → Prop} [∀ i j, Decidable (C i j)] {g : Int → Int → V} {h : Int → Int → D} (e : ∀ i j, scD (h i j) = some (g i j)) : OpV K (rI C g) (ii fun i j => if C i j then some (h i j) else none) := by
  intro d1 d2 d v1 v2 G H Q q s r1 r2 k
  cases d1 <;> simp [ii] at q
  cases d2 <;> simp [ii] at q
  obtain ⟨c, q⟩ := q
  subst q
  exact ⟨_, _, rep_int r1, rep_int r2, c, k _ (e _ _)⟩
instance : ∀ i j, Decidable (CDiv i j) := fun i j => by unfold CDiv; infer_instance
instance : ∀ i j, Decidable (CMul i j) := fun i j => by unfold CMul; infer_instance
instance : ∀ i j, Decidable (CPow i j) := fun i j => by unfold CPow; infer_instance
instance : ∀ i j : Int, Decidable ((fun _ j => 0 < j) i j : Prop) := fun i j => by infer_instance
def subD : D → D → Option D := ii fun i j => some (.int (i - j))
def fdivD : D → D → Option D := ii fun i j => if CDiv i j then some (.int (i / j)) else none
def modD : D → D → Option D := ii fun i j => if 0 < j then some (.int (i % j)) else none
def powD : D → D → Option D := ii fun i j => if CPow i j then some (.int (i ^ j.toNat)) else none
theorem opv_sub : OpV K (rI0 fun i j => .int (i - j)) subD := opv_i0 fun _ _ => rfl
theorem opv_fdiv : OpV K (rI CDiv fun i j => .int (i / j)) fdivD := opv_i fun _ _ => rfl
theorem opv_mod : OpV K (rI (fun _ j => 0 < j) fun i j => .int (i % j)) modD := opv_i (C := fun _ j => 0 < j) fun _ _ => rfl
theorem opv_pow : OpV K (rI CPow fun i j => .int (i ^ j.toNat)) powD := opv_i fun _ _ => rfl
def ltD : D → D → Option D := ii fun i j => some (.bl (decide (i < j)))
def leD : D → D → Option D := ii fun i j => some (.bl (decide (i ≤ j)))
def gtD : D → D → Option D := ii fun i j => some (.bl (decide (j < i)))
def geD : D → D → Option D := ii fun i j => some (.bl (decide (j ≤ i)))
theorem opv_lt : OpV K (rI0 fun i j => .bl (decide (i < j))) ltD := opv_i0 fun _ _ => rfl
theorem opv_le : OpV K (rI0 fun i j => .bl (decide (i ≤ j))) leD := opv_i0 fun _ _ => rfl
theorem opv_gt : OpV K (rI0 fun i j => .bl (decide (j < i))) gtD := opv_i0 fun _ _ => rfl
theorem opv_ge : OpV K (rI0 fun i j => .bl (decide (j ≤ i))) geD := opv_i0 fun _ _ => rfl
def negD : D → Option D
  | .int i => some (.int (-i))
  | _ => none
theorem unv_neg : UnV K (rU fun i => .int (-i)) negD := by
  intro d1 d v1 G H Q q s r1 k
  cases d1 <;> simp [negD] at q
  subst q
  exact ⟨_, rep_int r1, k _ rfl⟩

/-! ### == -/
mutual
def D.py : D → Option PyData
  | .non => some .none
  | .bl b => some (.bool b)
  | .int i => some (.int i)
  | .str x => some (.str x)
  | .lst l => (D.pyl l).map .list
  | .frl l => (D.pyl l).map .list
  | .tup l => (D.pyl l).map .tuple
  | _ => none
def D.pyl : List D → Option (List PyData)
  | [] => some []
  | d :: ds => match D.py d, D.pyl ds with
    | some p, some ps => some (p :: ps)
    | _, _ => none
end
mutual
theorem py_dp {G H : Hp} (s : Same G H) : ∀ (d : D) (p : PyData) (v : V), D.py d = some p → Rep K G d v → Dp K H v p
  | .non, p, v, e, r => by
    simp only [D.py, Option.some.injEq] at e; subst e
    simp only [Rep] at r; subst r; exact .non
  | .bl b, p, v, e, r => by
    simp only [D.py, Option.some.injEq] at e; subst e
    simp only [Rep] at r; subst r; exact .bl b
  | .int b, p, v, e, r => by
    simp only [D.py, Option.some.injEq] at e; subst e
    simp only [Rep] at r; subst r; exact .int b
  | .str b, p, v, e, r => by
    simp only [D.py, Option.some.injEq] at e; subst e
    simp only [Rep] at r; subst r; exact .str b
  | .ref a, p, v, e, r => by simp [D.py] at e
  | .dct _ _, p, v, e, r => by simp [D.py] at e
  | .dtt _ _, p, v, e, r => by simp [D.py] at e
  | .ins _ _ _, p, v, e, r => by simp [D.py] at e
  | .lst l, p, v, e, r => by
    simp only [D.py] at e
    cases q : D.pyl l with
    | none => rw [q] at e; cases e
    | some ps =>
      rw [q] at e
      simp only [Option.map_some, Option.some.injEq] at e
      subst e
      simp only [Rep] at r
      obtain ⟨a, xs, rfl, h, r⟩ := r
      exact .lst (.of (s _ _ h)) (pyl_dp s l ps xs q r)
  | .frl l, p, v, e, r => by
    simp only [D.py] at e
    cases q : D.pyl l with
    | none => rw [q] at e; cases e
    | some ps =>
      rw [q] at e
      simp only [Option.map_some, Option.some.injEq] at e
      subst e
      simp only [Rep] at r
      obtain ⟨a, xs, rfl, h, r⟩ := r
      exact .lst (s.seq h) (pyl_dp s l ps xs q r)
  | .tup l, p, v, e, r => by
    simp only [D.py] at e
    cases q : D.pyl l with
    | none => rw [q] at e; cases e
    | some ps =>
      rw [q] at e
      simp only [Option.map_some, Option.some.injEq] at e
      subst e
      simp only [Rep] at r
      obtain ⟨a, xs, rfl, h, r⟩ := r
      exact .tup (Same.sqt s h) (pyl_dp s l ps xs q r)
theorem pyl_dp {G H : Hp} (s : Same G H) : ∀ (l : List D) (ps : List PyData) (xs : List V), D.pyl l = some ps → RepL K G l xs → DpAll K H xs ps
  | [], ps, xs, e, r => by
    simp only [D.pyl, Option.some.injEq] at e; subst e
    simp only [RepL] at r; subst r; exact .nil
  | d :: ds, ps, xs, e, r => by
    simp only [D.pyl] at e
    cases q : D.py d with
    | none => simp only [q] at e; cases e
    | some p =>
      cases q2 : D.pyl ds with
      | none => simp only [q, q2] at e; cases e
      | some p2 =>
        simp only [q, q2, Option.some.injEq] at e
        subst e
        simp only [RepL] at r
        obtain ⟨x, r', rfl, h1, h2⟩ := r
        exact .cons (py_dp s d p x q h1) (pyl_dp s ds p2 r' q2 h2)
end
def scEq : D → D → Option Bool
  | .non, .non => some true | .non, .int _ => some false | .int _, .non => some false | .non, .bl _ => some false | .bl _, .non => some false | .non, .str _ => some false | .str _, .non => some false
  | .int i, .int j => some (decide (i = j)) | .bl i, .bl j => some (decide (i = j)) | .str i, .str j => some (decide (i = j))
  | .int _, .str _ => some false | .str _, .int _ => some false | .bl _, .str _ => some false | .str _, .bl _ => some false
  | _, _ => none
/-- equality of data -/
def eqB (d e : D) : Option Bool := match scEq d e with
  | some b => some b
  | none => match D.py d, D.py e with
    | some p, some q => if SeqAt.shaped p && SeqAt.shaped q then some (PyData.eqv p q) else none
    | _, _ => none
def eqD (d e : D) : Option D := (eqB d e).map .bl
def neD (d e : D) : Option D := (eqB d e).map fun b => .bl (!b)
theorem eqB_val {G H : Hp} {d e : D} {v w : V} {b : Bool} (s : Same G H) (r1 : Rep K G d v) (r2 : Rep K G e w) (h : eqB d e = some b) :
    (scal v w = true ∧ decide (v = w) = b) ∨ ∃ p q, Dp K H v p ∧ Dp K H w q ∧ SeqAt.shaped p = true ∧ SeqAt.shaped q = true ∧ PyData.eqv p q = b := by
  unfold eqB at h
  cases q : scEq d e with
  | some b' =>
    simp only [q, Option.some.injEq] at h
    subst h
    left
    unfold scEq at q
    split at q <;> cases q <;> (simp only [Rep] at r1 r2; subst r1 r2; simp [scal])
  | none =>
    simp only [q] at h
    cases q1 : D.py d with
    | none => simp only [q1] at h; cases h
    | some p =>
      cases q2 : D.py e with
      | none => simp only [q1, q2] at h; cases h
      | some p2 =>
        simp only [q1, q2] at h
        by_cases hs : (SeqAt.shaped p && SeqAt.shaped p2) = true
        · rw [if_pos hs] at h
          cases h
          rw [Bool.and_eq_true] at hs
          exact .inr ⟨p, p2, py_dp s d p v q1 r1, py_dp s e p2 w q2 r2, hs.1, hs.2, rfl⟩
        · rw [if_neg hs] at h; cases h
theorem opv_eq : OpV K (fun x y H Q => rEq x y H Q ∨ rEqD K x y H Q) eqD := by
  intro d1 d2 d v1 v2 G H Q q s r1 r2 k
  unfold eqD at q
  cases e : eqB d1 d2 with
  | none => rw [e] at q; cases q
  | some b =>
    rw [e] at q
    simp only [Option.map_some, Option.some.injEq] at q
    subst q
    rcases eqB_val s r1 r2 e with ⟨a, z⟩ | ⟨p, p2, h1, h2, h3, h4, h5⟩
    · exact .inl ⟨a, by rw [z]; exact k _ rfl⟩
    · exact .inr ⟨p, p2, h1, h2, h3, h4, by rw [h5]; exact k _ rfl⟩
theorem opv_ne : OpV K (fun x y H Q => rNe x y H Q ∨ rNeD K x y H Q) neD := by
  intro d1 d2 d v1 v2 G H Q q s r1 r2 k
  unfold neD at q
  cases e : eqB d1 d2 with
  | none => rw [e] at q; cases q
  | some b =>
    rw [e] at q
    simp only [Option.map_some, Option.some.injEq] at q
    subst q
    rcases eqB_val s r1 r2 e with ⟨a, z⟩ | ⟨p, p2, h1, h2, h3, h4, h5⟩
    · exact .inl ⟨a, by rw [z]; exact k _ rfl⟩
    · exact .inr ⟨p, p2, h1, h2, h3, h4, by rw [h5]; exact k _ rfl⟩

/-! ### in, not in: one sign in a text; a flat thing in a list or tuple -/
def isSign (x : Str) : Option Nat := match x.cps with | ⟨[c]⟩ => some c | _ => none
theorem isSign_eq {x : Str} {c : Nat} (h : isSign x = some c) : x = ⟨#[c]⟩ := by
  unfold isSign at h
  split at h
  · rename_i e
    cases h
    cases x
    simp only at e
    subst e
    rfl
  · cases h
def flatD : D → Bool
  | .non => true | .bl _ => true | .int _ => true | .str _ => true | _ => false
def flatEq : D → D → Bool
  | .non, .non => true
  | .bl a, .bl b => a == b
  | .bl a, .int b => (if a then 1 else 0) == b
  | .int a, .bl b => a == (if b then 1 else 0)
  | .int a, .int b => a == b
  | .str a, .str b => a == b
  | _, _ => false
theorem flat_rep {G : Hp} {d : D} {v : V} (r : Rep K G d v) (h : flatD d = true) : flatV v = true := by
  cases d <;> simp [flatD] at h <;> simp only [Rep] at r <;> subst r <;> rfl
theorem flatEq_rep {G : Hp} {d e : D} {v w : V} (r : Rep K G d v) (r' : Rep K G e w) (h : flatD d = true) (h' : flatD e = true) : eqV v w = flatEq d e := by
  cases d <;> simp [flatD] at h <;> cases e <;> simp [flatD] at h' <;> simp only [Rep] at r r' <;> subst r r' <;> rfl
theorem allFlat {G : Hp} : ∀ {l : List D} {xs : List V}, RepL K G l xs → l.all flatD = true → xs.all flatV = true
  | [], xs, r, _ => by simp only [RepL] at r; subst r; rfl
  | d :: ds, xs, r, h => by
    simp only [RepL] at r
    obtain ⟨x, r', rfl, h1, h2⟩ := r
    rw [List.all_cons, Bool.and_eq_true] at h ⊢
    exact ⟨flat_rep h1 h.1, allFlat h2 h.2⟩
theorem anyFlat {G : Hp} {d : D} {v : V} (r : Rep K G d v) (hd : flatD d = true) : ∀ {l : List D} {xs : List V}, RepL K G l xs → l.all flatD = true → xs.any (fun y => eqV y v) = l.any (fun y => flatEq y d)
  | [], xs, r, _ => by simp only [RepL] at r; subst r; rfl
  | e :: ds, xs, r', h => by
    simp only [RepL] at r'
    obtain ⟨x, r2, rfl, h1, h2⟩ := r'
    rw [List.all_cons, Bool.and_eq_true] at h
    rw [List.any_cons, List.any_cons, flatEq_rep h1 r h.1 hd, anyFlat r hd h2 h.2]
def seqD (d : D) : Option (List D) := match listD d with
  | some l => some l
  | none => tupD d
def inB (d e : D) : Option Bool := match d, e with
  | .str x, .str z => (isSign x).map fun c => decide (c ∈ z.cps.toList)
  | _, _ => match seqD e with
    | some l => if flatD d && l.all flatD then some (l.any fun y => flatEq y d) else none
    | none => none
def inD (d e : D) : Option D := (inB d e).map .bl
def notinD (d e : D) : Option D := (inB d e).map fun b => .bl (!b)
theorem inB_val {G H : Hp} {d e : D} {v w : V} {b : Bool} (s : Same G H) (r1 : Rep K G d v) (r2 : Rep K G e w) (h : inB d e = some b) :
    (∃ c z, v = .str ⟨#[c]⟩ ∧ w = .str z ∧ decide (c ∈ z.cps.toList) = b) ∨ ∃ p xs, w = .ref p ∧ (SqL K H p xs ∨ SqT K H p xs) ∧ flatV v = true ∧ xs.all flatV = true ∧ inV v xs = b := by
  have other : ∀ l, seqD e = some l → (if flatD d && l.all flatD then some (l.any fun y => flatEq y d) else none) = some b →
      ∃ p xs, w = .ref p ∧ (SqL K H p xs ∨ SqT K H p xs) ∧ flatV v = true ∧ xs.all flatV = true ∧ inV v xs = b := fun l e1 h => by
    by_cases hf : (flatD d && l.all flatD) = true
    · rw [if_pos hf] at h
      cases h
      rw [Bool.and_eq_true] at hf
      unfold seqD at e1
      cases q : listD e with
      | some l' =>
        simp only [q, Option.some.injEq] at e1
        subst e1
        obtain ⟨a, xs, rfl, hq, hr⟩ := listD_rep q r2
        exact ⟨a, xs, rfl, .inl (s.seq hq), flat_rep r1 hf.1, allFlat hr hf.2, anyFlat r1 hf.1 hr hf.2⟩
      | none =>
        simp only [q] at e1
        obtain ⟨a, xs, rfl, hq, hr⟩ := tupD_rep e1 r2
        exact ⟨a, xs, rfl, .inr (Same.sqt s hq), flat_rep r1 hf.1, allFlat hr hf.2, anyFlat r1 hf.1 hr hf.2⟩
    · rw [if_neg hf] at h; cases h
  have gen : (match seqD e with | some l => if flatD d && l.all flatD then some (l.any fun y => flatEq y d) else none | none => none) = some b → ∃ p xs, w = .ref p ∧ (SqL K H p xs ∨ SqT K H p xs) ∧ flatV v = true ∧ xs.all flatV = true ∧ inV v xs = b := fun h => by
    cases q : seqD e with
    | none => rw [q] at h; cases h
    | some l => rw [q] at h; exact other l q h
  unfold inB at h
  split at h
  · rename_i x z
    cases q : isSign x with
    | none => rw [q] at h; cases h
    | some c =>
      rw [q] at h
      simp only [Option.map_some, Option.some.injEq] at h
      have := isSign_eq q
      subst this
      exact .inl ⟨c, z, rep_str r1, rep_str r2, h⟩
  · exact .inr (gen h)
theorem opv_in : OpV K (fun x y H Q => (∃ (c : Nat) (z : Str), x = .str ⟨#[c]⟩ ∧ y = .str z ∧ Q (.bl (decide (c ∈ z.cps.toList))) H) ∨ rIn K false x y H Q) inD := by
  intro d1 d2 d v1 v2 G H Q q s r1 r2 k
  unfold inD at q
  cases e : inB d1 d2 with
  | none => rw [e] at q; cases q
  | some b =>
    rw [e] at q
    simp only [Option.map_some, Option.some.injEq] at q
    subst q
    rcases inB_val s r1 r2 e with ⟨c, z, h1, h2, h3⟩ | ⟨p, xs, h1, h2, h3, h4, h5⟩
    · exact .inl ⟨c, z, h1, h2, by rw [h3]; exact k _ rfl⟩
    · exact .inr ⟨p, xs, h1, h2, h3, h4, by rw [h5]; exact k _ rfl⟩
theorem opv_notin : OpV K (fun x y H Q => (∃ (c : Nat) (z : Str), x = .str ⟨#[c]⟩ ∧ y = .str z ∧ Q (.bl (!decide (c ∈ z.cps.toList))) H) ∨ rIn K true x y H Q) notinD := by
  intro d1 d2 d v1 v2 G H Q q s r1 r2 k
  unfold notinD at q
  cases e : inB d1 d2 with
  | none => rw [e] at q; cases q
  | some b =>
    rw [e] at q
    simp only [Option.map_some, Option.some.injEq] at q
    subst q
    rcases inB_val s r1 r2 e with ⟨c, z, h1, h2, h3⟩ | ⟨p, xs, h1, h2, h3, h4, h5⟩
    · exact .inl ⟨c, z, h1, h2, by rw [h3]; exact k _ rfl⟩
    · exact .inr ⟨p, xs, h1, h2, h3, h4, by show Q (V.bl (if true = true then !inV v1 xs else inV v1 xs)) H; rw [h5]; exact k _ rfl⟩
/-! ### is None -/
def isNon : D → Bool
  | .non => true
  | _ => false
def isNonD : D → D → Option D
  | .any, _ => none
  | d, .non => some (.bl (isNon d))
  | _, _ => none
def notNonD : D → D → Option D
  | .any, _ => none
  | d, .non => some (.bl (!isNon d))
  | _, _ => none
theorem non_iff {G : Hp} {d : D} {v : V} (hd : d ≠ .any) (r : Rep K G d v) : decide (v = .non) = isNon d := by
  cases d <;> simp only [Rep] at r <;> first
    | exact absurd rfl hd
    | (subst r; simp [isNon]; done)
    | (obtain ⟨a, _, _, e, _⟩ := r; subst e; simp [isNon]; done)
    | (obtain ⟨a, _, e, _⟩ := r; subst e; simp [isNon]; done)
theorem opv_isN : OpV K (fun x y H Q => y = .non ∧ Q (.bl (decide (x = .non))) H) isNonD := by
  intro d1 d2 d v1 v2 G H Q q s r1 r2 k
  have hd : d1 ≠ .any := by rintro rfl; simp [isNonD] at q
  have q2 : d2 = .non ∧ d = .bl (isNon d1) := by cases d1 <;> cases d2 <;> simp_all [isNonD]
  obtain ⟨rfl, rfl⟩ := q2
  exact ⟨by simpa [Rep] using r2, by rw [non_iff hd r1]; exact k _ rfl⟩
theorem opv_notN : OpV K (fun x y H Q => y = .non ∧ Q (.bl (!decide (x = .non))) H) notNonD := by
  intro d1 d2 d v1 v2 G H Q q s r1 r2 k
  have hd : d1 ≠ .any := by rintro rfl; simp [notNonD] at q
  have q2 : d2 = .non ∧ d = .bl (!isNon d1) := by cases d1 <;> cases d2 <;> simp_all [notNonD]
  obtain ⟨rfl, rfl⟩ := q2
  exact ⟨by simpa [Rep] using r2, by rw [non_iff hd r1]; exact k _ rfl⟩
end
end DV

namespace DV
open PySem PySem.Spec PyProof.Rows L2
section
variable {K : PySem.W.Frag}
/-! ### lists and tuples made anew of shared items -/
/-- a list that may be read as shared items: it stands in H -/
def viewL : T → Option (List D)
  | .sh (.lst l) => some l
  | .lst ts => T.shl ts
  | _ => none
def viewS : T → Option (List D)
  | .sh (.lst l) => some l
  | .sh (.frl l) => some l
  | .lst ts => T.shl ts
  | _ => none
def viewT : T → Option (List D)
  | .sh (.tup l) => some l
  | .tup ts => T.shl ts
  | _ => none
theorem viewL_own {G H : Hp} {t : T} {v : V} {fp : List Addr} {ds : List D} (s : Same G H) (e : viewL t = some ds) (o : Own K G H t v fp) : ∃ a xs, v = .ref a ∧ H a = some (.lst xs) ∧ RepL K G ds xs := by
  unfold viewL at e
  split at e
  · cases e
    simp only [Own, Rep] at o
    obtain ⟨_, a, xs, e, h, r⟩ := o
    exact ⟨a, xs, e, s _ _ h, r⟩
  · simp only [Own] at o
    obtain ⟨p, xs, f, rfl, rfl, h, r⟩ := o
    obtain ⟨_, r⟩ := OwnL.of_shl e r
    exact ⟨p, xs, rfl, h, r⟩
  · cases e
theorem viewS_own {G H : Hp} {t : T} {v : V} {fp : List Addr} {ds : List D} (s : Same G H) (e : viewS t = some ds) (o : Own K G H t v fp) : ∃ a xs, v = .ref a ∧ SqL K H a xs ∧ RepL K G ds xs := by
  unfold viewS at e
  split at e
  · cases e
    simp only [Own, Rep] at o
    obtain ⟨_, a, xs, e, h, r⟩ := o
    exact ⟨a, xs, e, .of (s _ _ h), r⟩
  · cases e
    simp only [Own, Rep] at o
    obtain ⟨_, a, xs, e, h, r⟩ := o
    exact ⟨a, xs, e, s.seq h, r⟩
  · simp only [Own] at o
    obtain ⟨p, xs, f, rfl, rfl, h, r⟩ := o
    obtain ⟨_, r⟩ := OwnL.of_shl e r
    exact ⟨p, xs, rfl, .of h, r⟩
  · cases e
theorem viewT_own {G H : Hp} {t : T} {v : V} {fp : List Addr} {ds : List D} (s : Same G H) (e : viewT t = some ds) (o : Own K G H t v fp) : ∃ a xs, v = .ref a ∧ SqT K H a xs ∧ RepL K G ds xs ∧ (Own K G H (.sh (.tup ds)) v [] ∨ fp = [a] ∧ H a = some (.tup xs)) := by
  unfold viewT at e
  split at e
  · cases e
    have o' := o
    simp only [Own, Rep] at o
    obtain ⟨z, a, xs, e, h, r⟩ := o
    subst z
    exact ⟨a, xs, e, Same.sqt s h, r, .inl o'⟩
  · simp only [Own] at o
    obtain ⟨p, xs, f, rfl, rfl, h, r⟩ := o
    obtain ⟨z, r'⟩ := OwnL.of_shl e r
    subst z
    exact ⟨p, xs, rfl, .of h, r', .inr ⟨rfl, h⟩⟩
  · cases e
def lstS (ds : List D) : T := .lst (ds.map T.sh)
def tupS (ds : List D) : T := .tup (ds.map T.sh)
theorem mk_lst {G H : Hp} {ds : List D} {xs : List V} {Q : VK} (s : Same G H) (r : RepL K G ds xs) (k : OkE K true G H Q (lstS ds)) : ∀ p, H p = none → Q (.ref p) (upd H p (.lst xs)) := fun p hp => by
  refine k (.ref p) G _ [p] (Grow.alloc s hp) ?_ (Clean.nil.cons (H1 := H) hp (s.free hp) (by simp))
  simp only [Own, lstS]
  exact ⟨p, xs, [], rfl, rfl, upd_same, OwnL.of_rep r⟩
theorem mk_tup {G H : Hp} {ds : List D} {xs : List V} {Q : VK} (s : Same G H) (r : RepL K G ds xs) (k : OkE K true G H Q (tupS ds)) : ∀ p, H p = none → Q (.ref p) (upd H p (.tup xs)) := fun p hp => by
  refine k (.ref p) G _ [p] (Grow.alloc s hp) ?_ (Clean.nil.cons (H1 := H) hp (s.free hp) (by simp))
  simp only [Own, tupS]
  exact ⟨p, xs, [], rfl, rfl, upd_same, OwnL.of_rep r⟩

/-! ### + -/
def addV : D → D → Option D
  | .int i, .int j => some (.int (i + j))
  | .str a, .str b => if a.length + b.length ≤ sizeLine then some (.str (a ++ b)) else none
  | _, _ => none
theorem opv_add : OpV K (fun x y H Q => rI0 (fun i j => .int (i + j)) x y H Q ∨ ∃ i j, x = .str i ∧ y = .str j ∧ i.length + j.length ≤ sizeLine ∧ Q (.str (i ++ j)) H) addV := by
  intro d1 d2 d v1 v2 G H Q q s r1 r2 k
  unfold addV at q
  split at q
  · cases q
    exact .inl ⟨_, _, rep_int r1, rep_int r2, k _ rfl⟩
  · rename_i a b
    by_cases h : a.length + b.length ≤ sizeLine
    · rw [if_pos h] at q
      cases q
      exact .inr ⟨_, _, rep_str r1, rep_str r2, h, k _ rfl⟩
    · rw [if_neg h] at q; cases q
  · cases q
def catL (t u : T) : Option T := match viewL t, viewL u with
  | some a, some b => if a.length + b.length ≤ sizeLine then some (lstS (a ++ b)) else none
  | _, _ => none
theorem opd_catL : OpD K rCat catL := by
  intro t1 t2 t v1 v2 f1 f2 G H Q e s o1 o2 k
  unfold catL at e
  cases q1 : viewL t1 with
  | none => simp only [q1] at e; cases e
  | some a =>
    cases q2 : viewL t2 with
    | none => simp only [q1, q2] at e; cases e
    | some b =>
      simp only [q1, q2] at e
      by_cases h : a.length + b.length ≤ sizeLine
      · rw [if_pos h] at e
        cases e
        obtain ⟨p, xs, rfl, h1, r1⟩ := viewL_own s q1 o1
        obtain ⟨p2, ys, rfl, h2, r2⟩ := viewL_own s q2 o2
        exact ⟨p, p2, xs, ys, rfl, rfl, h1, h2, by rw [RepL.length _ _ r1, RepL.length _ _ r2]; exact h, mk_lst s (RepL.append r1 r2) k⟩
      · rw [if_neg h] at e; cases e
/-- a new tuple, frozen at once -/
theorem mk_tupF {G H : Hp} {ds : List D} {xs : List V} {Q : VK} (s : Same G H) (r : RepL K G ds xs) (k : OkE K true G H Q (.sh (.tup ds))) : ∀ p, H p = none → Q (.ref p) (upd H p (.tup xs)) := fun p hp => by
  have hg : G p = none := s.free hp
  have sg : Same G (upd G p (.tup xs)) := same_upd hg
  refine k (.ref p) (upd G p (.tup xs)) _ [] ⟨sg, same_upd hp, fun b o e => ?_, fun b o e n => ?_⟩ ?_ .nil
  · by_cases hb : b = p
    · subst hb; rw [upd_same] at e ⊢; exact e
    · rw [upd_ne hb] at e ⊢; exact s _ _ e
  · rw [upd_ne (ne_of_none e hp)]; exact n
  · simp only [Own, Rep]
    exact ⟨trivial, p, xs, rfl, .of upd_same, RepL.mono sg _ _ r⟩
def shTup : T → Option (List D)
  | .sh (.tup l) => some l
  | _ => none
theorem shTup_own {G H : Hp} {t : T} {v : V} {fp : List Addr} {ds : List D} (s : Same G H) (e : shTup t = some ds) (o : Own K G H t v fp) : Rep K G (.tup ds) v ∧ ∃ a xs, v = .ref a ∧ SqT K H a xs ∧ RepL K G ds xs := by
  unfold shTup at e
  split at e
  · cases e
    simp only [Own] at o
    have r := o.2
    refine ⟨r, ?_⟩
    simp only [Rep] at r
    obtain ⟨a, xs, e, h, r⟩ := r
    exact ⟨a, xs, e, Same.sqt s h, r⟩
  · cases e
theorem shOk {G H : Hp} {d : D} {v : V} {Q : VK} (s : Same G H) (r : Rep K G d v) (k : OkE K true G H Q (.sh d)) : Q v H := k v G H [] (Grow.refl s) (by simp only [Own]; exact ⟨trivial, r⟩) .nil
def catT (t u : T) : Option T := match shTup t, shTup u with
  | some a, some b => if a.length + b.length ≤ sizeLine then some (.sh (.tup (a ++ b))) else none
  | _, _ => none
theorem RepL.nil_iff {G : Hp} {ds : List D} {xs : List V} (r : RepL K G ds xs) : xs = [] ↔ ds = [] := by
  have := RepL.length _ _ r
  constructor
  · intro e; rw [e] at this; exact List.eq_nil_of_length_eq_zero this.symm
  · intro e; rw [e] at this; exact List.eq_nil_of_length_eq_zero this
theorem opd_catT : OpD K (rCatA K) catT := by
  intro t1 t2 t v1 v2 f1 f2 G H Q e s o1 o2 k
  unfold catT at e
  cases q1 : shTup t1 with
  | none => simp only [q1] at e; cases e
  | some a =>
    cases q2 : shTup t2 with
    | none => simp only [q1, q2] at e; cases e
    | some b =>
      simp only [q1, q2] at e
      by_cases h : a.length + b.length ≤ sizeLine
      · rw [if_pos h] at e
        cases e
        obtain ⟨z1, p, xs, rfl, h1, r1⟩ := shTup_own s q1 o1
        obtain ⟨z2, p2, ys, rfl, h2, r2⟩ := shTup_own s q2 o2
        refine ⟨p, p2, xs, ys, rfl, rfl, h1, h2, by rw [RepL.length _ _ r1, RepL.length _ _ r2]; exact h, fun e => ?_, fun _ e => ?_, fun _ _ => mk_tupF s (RepL.append r1 r2) k⟩
        · have ea := r1.nil_iff.mp e
          subst ea
          exact shOk s z2 k
        · have eb := r2.nil_iff.mp e
          subst eb
          rw [List.append_nil] at k
          exact shOk s z1 k
      · rw [if_neg h] at e; cases e
/-- any + of the program's -/
def addT : T → T → Option T := fun t u => match vop addV t u with
  | some z => some z
  | none => match catL t u with
    | some z => some z
    | none => catT t u
theorem opd_add : OpD K (fun x y H Q => (rI0 (fun i j => .int (i + j)) x y H Q ∨ ∃ i j, x = .str i ∧ y = .str j ∧ i.length + j.length ≤ sizeLine ∧ Q (.str (i ++ j)) H) ∨ rCat x y H Q ∨ rCatA K x y H Q) addT :=
  (OpV.d opv_add).or (opd_catL.or opd_catT)
theorem opr_add {X : Cx} : OpR X (binaryOp .Add) (fun x y H Q => (rI0 (fun i j => .int (i + j)) x y H Q ∨ ∃ i j, x = .str i ∧ y = .str j ∧ i.length + j.length ≤ sizeLine ∧ Q (.str (i ++ j)) H) ∨ rCat x y H Q ∨ rCatA X.K x y H Q) :=
  (op_add.or op_add_str).or (op_cat.or op_catA)

/-! ### * -/
def mulV : D → D → Option D := ii fun i j => if CMul i j then some (.int (i * j)) else none
theorem opv_mul : OpV K (rI CMul fun i j => .int (i * j)) mulV := opv_i fun _ _ => rfl
theorem RepL.rep {G : Hp} {ds : List D} {xs : List V} (r : RepL K G ds xs) : ∀ n, RepL K G (List.replicate n ds).flatten (List.replicate n xs).flatten
  | 0 => by simp [RepL]
  | n + 1 => by
    rw [List.replicate_succ, List.flatten_cons, List.replicate_succ, List.flatten_cons]
    exact RepL.append r (RepL.rep r n)
def repLT (t u : T) : Option T := match viewL t, intT u with
  | some a, some k => if -(2 ^ 63) ≤ k ∧ k < 2 ^ 63 ∧ a.length * k.toNat ≤ sizeLine then some (lstS (List.replicate k.toNat a).flatten) else none
  | _, _ => none
theorem opd_repL : OpD K rRep repLT := by
  intro t1 t2 t v1 v2 f1 f2 G H Q e s o1 o2 k
  unfold repLT at e
  cases q1 : viewL t1 with
  | none => simp only [q1] at e; cases e
  | some a =>
    cases q2 : intT t2 with
    | none => simp only [q1, q2] at e; cases e
    | some b =>
      simp only [q1, q2] at e
      by_cases h : -(2 ^ 63) ≤ b ∧ b < 2 ^ 63 ∧ a.length * b.toNat ≤ sizeLine
      · rw [if_pos h] at e
        cases e
        obtain ⟨p, xs, rfl, h1, r1⟩ := viewL_own s q1 o1
        have := intT_own q2 o2
        subst this
        exact ⟨p, b, xs, rfl, rfl, h1, h.1, h.2.1, by rw [RepL.length _ _ r1]; exact h.2.2, mk_lst s (RepL.rep r1 _) k⟩
      · rw [if_neg h] at e; cases e
def repTT (t u : T) : Option T := match shTup t, intT u with
  | some a, some k => if 2 ≤ k ∧ k ≤ 1000 ∧ a.length ≤ 1000 ∧ 1 ≤ a.length then some (.sh (.tup (List.replicate k.toNat a).flatten)) else none
  | _, _ => none
theorem opd_repT : OpD K (rRepT K) repTT := by
  intro t1 t2 t v1 v2 f1 f2 G H Q e s o1 o2 k
  unfold repTT at e
  cases q1 : shTup t1 with
  | none => simp only [q1] at e; cases e
  | some a =>
    cases q2 : intT t2 with
    | none => simp only [q1, q2] at e; cases e
    | some b =>
      simp only [q1, q2] at e
      by_cases h : 2 ≤ b ∧ b ≤ 1000 ∧ a.length ≤ 1000 ∧ 1 ≤ a.length
      · rw [if_pos h] at e
        cases e
        obtain ⟨_, p, xs, rfl, h1, r1⟩ := shTup_own s q1 o1
        have hx := RepL.length _ _ r1
        have := intT_own q2 o2
        subst this
        refine ⟨p, b, xs, rfl, rfl, h1, fun e => ?_, h.1, h.2.1, by rw [hx]; exact h.2.2.1, mk_tupF s (RepL.rep r1 _) k⟩
        rw [e] at hx
        simp at hx
        omega
      · rw [if_neg h] at e; cases e

/-! ### len -/
def lenD : List D → Option D
  | [.str x] => if x.length ≤ sizeLine then some (.int x.length) else none
  | [.lst l] => some (.int l.length)
  | [.frl l] => some (.int l.length)
  | [.tup l] => some (.int l.length)
  | _ => none
theorem callv_len : CallV K (fun xs H Q => ∃ x n, xs = [x] ∧ LenV K x H n ∧ Q (.int n) H) lenD := by
  intro ds d vs G H Q e s r k
  unfold lenD at e
  split at e
  · rename_i x
    by_cases h : x.length ≤ sizeLine
    · rw [if_pos h] at e
      cases e
      simp only [RepL, Rep] at r
      obtain ⟨y, r', rfl, rfl, rfl⟩ := r
      exact ⟨_, _, rfl, ⟨h, rfl⟩, k _ rfl⟩
    · rw [if_neg h] at e; cases e
  · cases e
    simp only [RepL, Rep] at r
    obtain ⟨y, r', rfl, ⟨a, xs, rfl, h, r⟩, rfl⟩ := r
    exact ⟨_, _, rfl, .inl ⟨xs, .of (s _ _ h), rfl⟩, by rw [RepL.length _ _ r]; exact k _ rfl⟩
  · cases e
    simp only [RepL, Rep] at r
    obtain ⟨y, r', rfl, ⟨a, xs, rfl, h, r⟩, rfl⟩ := r
    exact ⟨_, _, rfl, .inl ⟨xs, s.seq h, rfl⟩, by rw [RepL.length _ _ r]; exact k _ rfl⟩
  · cases e
    simp only [RepL, Rep] at r
    obtain ⟨y, r', rfl, ⟨a, xs, rfl, h, r⟩, rfl⟩ := r
    exact ⟨_, _, rfl, .inr ⟨xs, Same.sqt s h, rfl⟩, by rw [RepL.length _ _ r]; exact k _ rfl⟩
  · cases e
/-! ### abs, min, max, str, int -/
def absD : List D → Option D
  | [.int i] => some (.int (if i < 0 then -i else i))
  | _ => none
theorem callv_abs : CallV K (fun xs H Q => ∃ i, xs = [.int i] ∧ Q (.int (if i < 0 then -i else i)) H) absD := by
  intro ds d vs G H Q e s r k
  unfold absD at e
  split at e
  · cases e
    simp only [RepL, Rep] at r
    obtain ⟨y, r', rfl, rfl, rfl⟩ := r
    exact ⟨_, rfl, k _ rfl⟩
  · cases e
def min2D : List D → Option D
  | [.int i, .int j] => some (.int (if j < i then j else i))
  | _ => none
theorem callv_min2 : CallV K (fun xs H Q => ∃ i j, xs = [.int i, .int j] ∧ Q (.int (if j < i then j else i)) H) min2D := by
  intro ds d vs G H Q e s r k
  unfold min2D at e
  split at e
  · cases e
    simp only [RepL, Rep] at r
    obtain ⟨y, r', rfl, rfl, z, r2, rfl, rfl, rfl⟩ := r
    exact ⟨_, _, rfl, k _ rfl⟩
  · cases e
def max2D : List D → Option D
  | [.int i, .int j] => some (.int (if j > i then j else i))
  | _ => none
theorem callv_max2 : CallV K (fun xs H Q => ∃ i j, xs = [.int i, .int j] ∧ Q (.int (if j > i then j else i)) H) max2D := by
  intro ds d vs G H Q e s r k
  unfold max2D at e
  split at e
  · cases e
    simp only [RepL, Rep] at r
    obtain ⟨y, r', rfl, rfl, z, r2, rfl, rfl, rfl⟩ := r
    exact ⟨_, _, rfl, k _ rfl⟩
  · cases e
def strD : List D → Option D
  | [.int i] => if i.natAbs.log2 < 1920 then some (.str (toString i)) else none
  | [.str x] => some (.str x)
  | _ => none
theorem callv_str : CallV K (fun xs H Q => (∃ i, xs = [.int i] ∧ i.natAbs.log2 < 1920 ∧ Q (.str (toString i)) H) ∨ ∃ a, xs = [.str a] ∧ Q (.str a) H) strD := by
  intro ds d vs G H Q e s r k
  unfold strD at e
  split at e
  · rename_i i
    by_cases h : i.natAbs.log2 < 1920
    · rw [if_pos h] at e
      cases e
      simp only [RepL, Rep] at r
      obtain ⟨y, r', rfl, rfl, rfl⟩ := r
      exact .inl ⟨_, rfl, h, k _ rfl⟩
    · rw [if_neg h] at e; cases e
  · cases e
    simp only [RepL, Rep] at r
    obtain ⟨y, r', rfl, rfl, rfl⟩ := r
    exact .inr ⟨_, rfl, k _ rfl⟩
  · cases e
theorem cr_str {X : Cx} : CallR X (.type "str") (fun xs H Q => (∃ i, xs = [.int i] ∧ i.natAbs.log2 < 1920 ∧ Q (.str (toString i)) H) ∨ ∃ a, xs = [.str a] ∧ Q (.str a) H) := call_str_int.or SkE.call_str_str
def intD1 : List D → Option D
  | [.int i] => some (.int i)
  | [.bl b] => some (.int (if b then 1 else 0))
  | [.str a] => if a.length ≤ 640 then (PySem.intText? a).map .int else none
  | _ => none
theorem callv_int : CallV K (fun xs H Q => ((∃ i, xs = [.int i] ∧ Q (.int i) H) ∨ ∃ k, xs = [.bl k] ∧ Q (.int (if k then 1 else 0)) H) ∨ ∃ a n, xs = [.str a] ∧ PySem.intText? a = some n ∧ a.length ≤ 640 ∧ Q (.int n) H) intD1 := by
  intro ds d vs G H Q e s r k
  unfold intD1 at e
  split at e
  · cases e
    simp only [RepL, Rep] at r
    obtain ⟨y, r', rfl, rfl, rfl⟩ := r
    exact .inl (.inl ⟨_, rfl, k _ rfl⟩)
  · cases e
    simp only [RepL, Rep] at r
    obtain ⟨y, r', rfl, rfl, rfl⟩ := r
    exact .inl (.inr ⟨_, rfl, k _ rfl⟩)
  · rename_i a
    by_cases h : a.length ≤ 640
    · rw [if_pos h] at e
      cases q : PySem.intText? a with
      | none => rw [q] at e; cases e
      | some n =>
        rw [q] at e
        cases e
        simp only [RepL, Rep] at r
        obtain ⟨y, r', rfl, rfl, rfl⟩ := r
        exact .inr ⟨_, _, rfl, q, h, k _ rfl⟩
    · rw [if_neg h] at e; cases e
  · cases e
theorem cr_int {X : Cx} : CallR X (.type "int") (fun xs H Q => ((∃ i, xs = [.int i] ∧ Q (.int i) H) ∨ ∃ k, xs = [.bl k] ∧ Q (.int (if k then 1 else 0)) H) ∨ ∃ a n, xs = [.str a] ∧ PySem.intText? a = some n ∧ a.length ≤ 640 ∧ Q (.int n) H) := call_int1.or call_int_str
/-! ### tuple(..), list(..) -/
def tupleT : List T → Option T
  | [t] => match shTup t with
    | some l => some (.sh (.tup l))
    | none => (viewS t).map fun l => .sh (.tup l)
  | _ => none
theorem calld_tuple : CallD K (fun xs H Q => ∃ p ys, xs = [.ref p] ∧ ((SqL K H p ys ∧ ∀ l, H l = none → Q (.ref l) (upd H l (.tup ys))) ∨ (SqT K H p ys ∧ Q (.ref p) H))) tupleT := by
  intro ts t vs fp G H Q e s o k
  unfold tupleT at e
  split at e
  · rename_i t1
    simp only [OwnL] at o
    obtain ⟨x, r, f, g, rfl, rfl, o, rfl, rfl⟩ := o
    cases q : shTup t1 with
    | some l =>
      simp only [q, Option.some.injEq] at e
      subst e
      obtain ⟨z, p, xs, rfl, h, r⟩ := shTup_own s q o
      exact ⟨p, xs, rfl, .inr ⟨h, shOk s z k⟩⟩
    | none =>
      simp only [q] at e
      cases q2 : viewS t1 with
      | none => rw [q2] at e; cases e
      | some l =>
        rw [q2] at e
        simp only [Option.map_some, Option.some.injEq] at e
        subst e
        obtain ⟨p, xs, rfl, h, r⟩ := viewS_own s q2 o
        exact ⟨p, xs, rfl, .inl ⟨h, mk_tupF s r k⟩⟩
  · cases e
def listT : List T → Option T
  | [t] => match viewS t with
    | some l => some (lstS l)
    | none => (shTup t).map lstS
  | _ => none
theorem calld_list : CallD K (fun xs H Q => ∃ p ys, xs = [.ref p] ∧ (SqL K H p ys ∨ SqT K H p ys) ∧ ∀ l, H l = none → Q (.ref l) (upd H l (.lst ys))) listT := by
  intro ts t vs fp G H Q e s o k
  unfold listT at e
  split at e
  · rename_i t1
    simp only [OwnL] at o
    obtain ⟨x, r, f, g, rfl, rfl, o, rfl, rfl⟩ := o
    cases q : viewS t1 with
    | some l =>
      simp only [q, Option.some.injEq] at e
      subst e
      obtain ⟨p, xs, rfl, h, r⟩ := viewS_own s q o
      exact ⟨p, xs, rfl, .inl h, mk_lst s r k⟩
    | none =>
      simp only [q] at e
      cases q2 : shTup t1 with
      | none => rw [q2] at e; cases e
      | some l =>
        rw [q2] at e
        simp only [Option.map_some, Option.some.injEq] at e
        subst e
        obtain ⟨z, p, xs, rfl, h, r⟩ := shTup_own s q2 o
        exact ⟨p, xs, rfl, .inr h, mk_lst s r k⟩
  · cases e

/-! ### x[i] -/
/-- the items of a list or tuple, owned or shared -/
def itemsT : T → Option (List T)
  | .sh (.lst l) => some (l.map T.sh)
  | .sh (.frl l) => some (l.map T.sh)
  | .sh (.tup l) => some (l.map T.sh)
  | .lst ts => some ts
  | .tup ts => some ts
  | _ => none
def ixT (t u : T) : Option T := match intT u with
  | none => none
  | some i => match t with
    | .sh (.str z) => if z.length ≤ sizeLine then (atI z.cps.toList i).map fun c => .sh (.str ⟨#[c]⟩) else none
    | t => (itemsT t).bind fun ts => atI ts i
theorem atI_len {α β : Type} {xs : List α} {ys : List β} {i : Int} {x : α} (hl : xs.length = ys.length) (h : atI xs i = some x) : ∃ j : Nat, xs[j]? = some x ∧ ∀ y, ys[j]? = some y → atI ys i = some y := by
  unfold atI at h ⊢
  cases e : ixN xs.length i with
  | none => rw [e] at h; cases h
  | some j =>
    rw [e] at h
    rw [hl] at e
    exact ⟨j, h, fun y hy => by rw [e]; exact hy⟩
theorem OwnL.get2 {G H : Hp} {l : List T} {xs : List V} {fp : List Addr} {i : Int} {t : T} (o : OwnL K G H l xs fp) (e : atI l i = some t) : ∃ x f, atI xs i = some x ∧ Own K G H t x f ∧ ∀ p ∈ f, p ∈ fp := by
  obtain ⟨j, h1, h2⟩ := atI_len (OwnL.length _ _ _ o).symm e
  obtain ⟨x, f, a, b, c⟩ := OwnL.get _ _ _ _ _ o h1
  exact ⟨x, f, h2 x a, b, c⟩
theorem opp_ix : OpP K (rIx K) ixT := by
  intro t1 t2 t v1 v2 f1 f2 G H Q e s o1 o2 c k
  unfold ixT at e
  cases q : intT t2 with
  | none => simp only [q] at e; cases e
  | some i =>
    simp only [q] at e
    have := intT_own q o2
    subst this
    have gen : ∀ {ts : List T} {a : Addr} {xs : List V} {fp : List Addr}, OwnL K G H ts xs fp → (∀ p ∈ fp, G p = none) → atI ts i = some t → ∃ v, atI xs i = some v ∧ Q v H := fun {ts a xs fp} o c e => by
      obtain ⟨x, f, h1, h2, h3⟩ := OwnL.get2 o e
      exact ⟨x, h1, k x G H f (Grow.refl s) h2 ⟨fun p hp => c p (h3 p hp), fun z => Bool.noConfusion z⟩⟩
    split at e
    · rename_i z
      by_cases hz : z.length ≤ sizeLine
      · rw [if_pos hz] at e
        cases q2 : atI z.cps.toList i with
        | none => rw [q2] at e; cases e
        | some ch =>
          rw [q2] at e
          simp only [Option.map_some, Option.some.injEq] at e
          subst e
          simp only [Own, Rep] at o1
          obtain ⟨_, rfl⟩ := o1
          exact .inr (.inr ⟨z, i, ch, rfl, rfl, hz, q2, k _ G H [] (Grow.refl s) (by simp [Own, Rep]) .nil⟩)
      · rw [if_neg hz] at e; cases e
    · cases q2 : itemsT t1 with
      | none => rw [q2] at e; cases e
      | some ts =>
        rw [q2] at e
        simp only [Option.bind_some] at e
        unfold itemsT at q2
        split at q2
        · cases q2
          simp only [Own, Rep] at o1
          obtain ⟨_, a, xs, rfl, h, r⟩ := o1
          obtain ⟨x, h1, h2⟩ := gen (a := a) (OwnL.of_rep r) (by simp) e
          exact .inl ⟨a, xs, i, x, rfl, rfl, .of (s _ _ h), h1, h2⟩
        · cases q2
          simp only [Own, Rep] at o1
          obtain ⟨_, a, xs, rfl, h, r⟩ := o1
          obtain ⟨x, h1, h2⟩ := gen (a := a) (OwnL.of_rep r) (by simp) e
          exact .inl ⟨a, xs, i, x, rfl, rfl, s.seq h, h1, h2⟩
        · cases q2
          simp only [Own, Rep] at o1
          obtain ⟨_, a, xs, rfl, h, r⟩ := o1
          obtain ⟨x, h1, h2⟩ := gen (a := a) (OwnL.of_rep r) (by simp) e
          exact .inr (.inl ⟨a, xs, i, x, rfl, rfl, Same.sqt s h, h1, h2⟩)
        · cases q2
          simp only [Own] at o1
          obtain ⟨a, xs, f, rfl, rfl, h, r⟩ := o1
          obtain ⟨x, h1, h2⟩ := gen (a := a) r (fun p hp => c p (by simp [hp])) e
          exact .inl ⟨a, xs, i, x, rfl, rfl, .of h, h1, h2⟩
        · cases q2
          simp only [Own] at o1
          obtain ⟨a, xs, f, rfl, rfl, h, r⟩ := o1
          obtain ⟨x, h1, h2⟩ := gen (a := a) r (fun p hp => c p (by simp [hp])) e
          exact .inr (.inl ⟨a, xs, i, x, rfl, rfl, .of h, h1, h2⟩)
        · cases q2
end
end DV

namespace DV
open PySem PySem.Spec PyProof.Rows L2

/-! ## places: a part of what a slot owns -/
inductive Step where
  | ix (n : Nat) | fld (f : Str) | key (k : Key) | tkey (k : List Key)
def lookL {κ α : Type} [DecidableEq κ] : List κ → List α → κ → Option α
  | k :: ks, a :: l, x => if k = x then some a else lookL ks l x
  | _, _, _ => none
def setL {κ α : Type} [DecidableEq κ] : List κ → List α → κ → α → List α
  | k :: ks, a :: l, x, y => if k = x then y :: l else a :: setL ks l x y
  | _, l, _, _ => l
def T.step : T → Step → Option T
  | .lst l, .ix n => l[n]?
  | .tup l, .ix n => l[n]?
  | .ins _ ks l, .fld f => lookL ks l f
  | .dct ks l, .key k => lookL ks l k
  | .dtt ks l, .tkey k => lookL ks l k
  | _, _ => none
def T.put1 : T → Step → T → T
  | .lst l, .ix n, u => .lst (l.set n u)
  | .tup l, .ix n, u => .tup (l.set n u)
  | .ins C ks l, .fld f, u => .ins C ks (setL ks l f u)
  | .dct ks l, .key k, u => .dct ks (setL ks l k u)
  | .dtt ks l, .tkey k, u => .dtt ks (setL ks l k u)
  | t, _, _ => t
def T.at : T → List Step → Option T
  | t, [] => some t
  | t, s :: π => (t.step s).bind fun u => u.at π
def T.put : T → List Step → T → T
  | _, [], u => u
  | t, s :: π, u => match t.step s with
    | some x => t.put1 s (x.put π u)
    | none => t
def V1 (H : Hp) (v : V) (s : Step) (x : V) : Prop := match s with
  | .ix n => ∃ a xs, v = .ref a ∧ (H a = some (.lst xs) ∨ H a = some (.tup xs)) ∧ xs[n]? = some x
  | .fld f => ∃ a C dx gs, v = .ref a ∧ H a = some (.ins C dx gs) ∧ gs.lookup f = some x
  | .key k => ∃ a kvs, v = .ref a ∧ H a = some (.dK kvs) ∧ valV kvs k = some x
  | .tkey k => ∃ a kvs, v = .ref a ∧ H a = some (.dT kvs) ∧ valV kvs k = some x
def VAt (H : Hp) : V → List Step → V → Prop
  | v, [], w => w = v
  | v, s :: π, w => ∃ x, V1 H v s x ∧ VAt H x π w
theorem V1.det {H : Hp} {v x y : V} {s : Step} (a : V1 H v s x) (b : V1 H v s y) : x = y := by
  cases s with
  | ix n =>
    obtain ⟨p, xs, e, h, q⟩ := a
    obtain ⟨p', xs', e', h', q'⟩ := b
    subst e
    cases e'
    rcases h with h | h <;> rcases h' with h' | h' <;> rw [h] at h' <;> cases h' <;> rw [q] at q' <;> exact Option.some.inj q'
  | fld f =>
    obtain ⟨p, C, dx, gs, e, h, q⟩ := a
    obtain ⟨p', C', dx', gs', e', h', q'⟩ := b
    subst e
    cases e'
    rw [h] at h'; cases h'; rw [q] at q'; exact Option.some.inj q'
  | key k =>
    obtain ⟨p, xs, e, h, q⟩ := a
    obtain ⟨p', xs', e', h', q'⟩ := b
    subst e
    cases e'
    rw [h] at h'; cases h'; rw [q] at q'; exact Option.some.inj q'
  | tkey k =>
    obtain ⟨p, xs, e, h, q⟩ := a
    obtain ⟨p', xs', e', h', q'⟩ := b
    subst e
    cases e'
    rw [h] at h'; cases h'; rw [q] at q'; exact Option.some.inj q'
theorem VAt.det {H : Hp} : ∀ {π : List Step} {v x y : V}, VAt H v π x → VAt H v π y → x = y
  | [], v, x, y, a, b => by
    have a' : x = v := a
    have b' : y = v := b
    rw [a', b']
  | s :: π, v, x, y, ⟨z, h1, h2⟩, ⟨z', h1', h2'⟩ => by
    have := h1.det h1'
    subst this
    exact VAt.det h2 h2'
theorem V1.mono {H H' : Hp} {v x : V} {s : Step} (sm : Same H H') (a : V1 H v s x) : V1 H' v s x := by
  cases s with
  | ix n =>
    obtain ⟨p, xs, e, h, q⟩ := a
    exact ⟨p, xs, e, h.imp (sm _ _) (sm _ _), q⟩
  | fld f =>
    obtain ⟨p, C, dx, gs, e, h, q⟩ := a
    exact ⟨p, C, dx, gs, e, sm _ _ h, q⟩
  | key k =>
    obtain ⟨p, xs, e, h, q⟩ := a
    exact ⟨p, xs, e, sm _ _ h, q⟩
  | tkey k =>
    obtain ⟨p, xs, e, h, q⟩ := a
    exact ⟨p, xs, e, sm _ _ h, q⟩
theorem VAt.mono {H H' : Hp} (sm : Same H H') : ∀ {π : List Step} {v x : V}, VAt H v π x → VAt H' v π x
  | [], v, x, a => a
  | s :: π, v, x, ⟨z, h1, h2⟩ => ⟨z, h1.mono sm, VAt.mono sm h2⟩
theorem VAt.snoc {H : Hp} {s : Step} : ∀ {π : List Step} {v x y : V}, VAt H v π x → V1 H x s y → VAt H v (π ++ [s]) y
  | [], v, x, y, a, b => by
    have a' : x = v := a
    subst a'
    exact ⟨y, b, rfl⟩
  | s' :: π, v, x, y, ⟨z, h1, h2⟩, b => ⟨z, h1, VAt.snoc h2 b⟩
section
variable {K : PySem.W.Frag} {G H : Hp}
theorem OwnL.focus : ∀ {l : List T} {xs : List V} {fp : List Addr} {n : Nat} {u : T}, OwnL K G H l xs fp → l[n]? = some u →
    ∃ w f1 ff f2, xs[n]? = some w ∧ fp = f1 ++ (ff ++ f2) ∧ Own K G H u w ff ∧ ∀ (G2 H2 : Hp) u2 ff2, Same G G2 → (∀ p, p ∈ f1 ∨ p ∈ f2 → H2 p = H p) → Own K G2 H2 u2 w ff2 → OwnL K G2 H2 (l.set n u2) xs (f1 ++ (ff2 ++ f2))
  | [], xs, fp, n, u, o, e => by simp at e
  | t :: ts, xs, fp, n, u, o, e => by
    simp only [OwnL] at o
    obtain ⟨x, r, f, g, rfl, rfl, h1, h2⟩ := o
    cases n with
    | zero =>
      have : t = u := by simpa using e
      subst this
      refine ⟨x, [], f, g, rfl, rfl, h1, fun G2 H2 u2 ff2 s k o2 => ?_⟩
      simp only [List.set_cons_zero, OwnL]
      exact ⟨x, r, ff2, g, rfl, rfl, o2, h2.mono s _ _ _ fun p hp => k p (.inr hp)⟩
    | succ j =>
      obtain ⟨w, f1, ff, f2, a, b, c, d⟩ := OwnL.focus (n := j) h2 (by simpa using e)
      subst b
      refine ⟨w, f ++ f1, ff, f2, by simpa using a, by simp, c, fun G2 H2 u2 ff2 s k o2 => ?_⟩
      simp only [List.set_cons_succ, OwnL]
      refine ⟨x, r, f, f1 ++ (ff2 ++ f2), rfl, by simp, h1.mono s _ _ _ fun p hp => k p (.inl (by simp [hp])), d G2 H2 u2 ff2 s (fun p hp => k p ?_) o2⟩
      rcases hp with hp | hp
      · exact .inl (by simp [hp])
      · exact .inr hp
/-- the place of a key -/
theorem lookL_ix {κ α β : Type} [DecidableEq κ] : ∀ {ks : List κ} {l : List α} {x : κ} {a : α}, lookL ks l x = some a → ∃ n : Nat, l[n]? = some a ∧ ks[n]? = some x ∧ (∀ b, setL ks l x b = l.set n b) ∧ ∀ m : Nat, m < n → ks[m]? ≠ some x
  | [], l, x, a, e => by simp [lookL] at e
  | k :: ks, [], x, a, e => by simp [lookL] at e
  | k :: ks, b :: l, x, a, e => by
    unfold lookL at e
    by_cases h : k = x
    · rw [if_pos h] at e
      cases e
      subst h
      exact ⟨0, rfl, rfl, fun c => by unfold setL; rw [if_pos rfl]; rfl, fun m hm => by omega⟩
    · rw [if_neg h] at e
      obtain ⟨n, h1, h2, h3, h4⟩ := lookL_ix (β := β) e
      refine ⟨n + 1, by simpa using h1, by simpa using h2, fun c => by unfold setL; rw [if_neg h, h3]; rfl, fun m hm => ?_⟩
      cases m with
      | zero => simpa using h
      | succ m => simpa using h4 m (by omega)
theorem lookup_ix {β : Type} : ∀ {gs : List (Str × β)} {f : Str} {n : Nat} {x : β}, (gs.map (·.1))[n]? = some f → (gs.map (·.2))[n]? = some x → (∀ m : Nat, m < n → (gs.map (·.1))[m]? ≠ some f) → gs.lookup f = some x
  | [], f, n, x, h, _, _ => by simp at h
  | (g, y) :: gs, f, n, x, h, h2, h3 => by
    cases n with
    | zero =>
      have e1 : g = f := by simpa using h
      have e2 : y = x := by simpa using h2
      subst e1 e2
      simp [List.lookup]
    | succ n =>
      have ne : g ≠ f := fun e => h3 0 (by omega) (by simp [e])
      have : (f == g) = false := by simpa using fun e => ne e.symm
      rw [List.lookup, this]
      exact lookup_ix (by simpa using h) (by simpa using h2) fun m hm e => h3 (m + 1) (by omega) (by simpa using e)
theorem valV_ix {κ : Type} [DecidableEq κ] : ∀ {gs : List (κ × V)} {f : κ} {n : Nat} {x : V}, (gs.map (·.1))[n]? = some f → (gs.map (·.2))[n]? = some x → (∀ m : Nat, m < n → (gs.map (·.1))[m]? ≠ some f) → valV gs f = some x
  | [], f, n, x, h, _, _ => by simp at h
  | (g, y) :: gs, f, n, x, h, h2, h3 => by
    cases n with
    | zero =>
      have e1 : g = f := by simpa using h
      have e2 : y = x := by simpa using h2
      subst e1 e2
      exact valV_pos rfl
    | succ n =>
      have ne : ¬ g = f := fun e => h3 0 (by omega) (by simp [e])
      rw [valV_neg (p := (g, y)) ne]
      exact valV_ix (by simpa using h) (by simpa using h2) fun m hm e => h3 (m + 1) (by omega) (by simpa using e)
theorem Own.focus1 {t u : T} {v : V} {fp : List Addr} {s : Step} (o : Own K G H t v fp) (e : t.step s = some u) :
    ∃ w f1 ff f2, V1 H v s w ∧ fp = f1 ++ (ff ++ f2) ∧ Own K G H u w ff ∧ ∀ (G2 H2 : Hp) u2 ff2, Same G G2 → (∀ p, p ∈ f1 ∨ p ∈ f2 → H2 p = H p) → Own K G2 H2 u2 w ff2 → Own K G2 H2 (t.put1 s u2) v (f1 ++ (ff2 ++ f2)) := by
  unfold T.step at e
  split at e
  · rename_i l n
    simp only [Own] at o
    obtain ⟨p, xs, f, rfl, rfl, h, r⟩ := o
    obtain ⟨w, f1, ff, f2, a, b, c, d⟩ := OwnL.focus r e
    subst b
    refine ⟨w, p :: f1, ff, f2, ⟨p, xs, rfl, .inl h, a⟩, rfl, c, fun G2 H2 u2 ff2 s k o2 => ?_⟩
    simp only [T.put1, Own]
    exact ⟨p, xs, f1 ++ (ff2 ++ f2), rfl, rfl, (k p (.inl (by simp))).trans h, d G2 H2 u2 ff2 s (fun q hq => k q (hq.imp (fun z => by simp [z]) id)) o2⟩
  · rename_i l n
    simp only [Own] at o
    obtain ⟨p, xs, f, rfl, rfl, h, r⟩ := o
    obtain ⟨w, f1, ff, f2, a, b, c, d⟩ := OwnL.focus r e
    subst b
    refine ⟨w, p :: f1, ff, f2, ⟨p, xs, rfl, .inr h, a⟩, rfl, c, fun G2 H2 u2 ff2 s k o2 => ?_⟩
    simp only [T.put1, Own]
    exact ⟨p, xs, f1 ++ (ff2 ++ f2), rfl, rfl, (k p (.inl (by simp))).trans h, d G2 H2 u2 ff2 s (fun q hq => k q (hq.imp (fun z => by simp [z]) id)) o2⟩
  · rename_i C ks l g
    simp only [Own] at o
    obtain ⟨p, dx, gs, f, rfl, rfl, h, m, r⟩ := o
    obtain ⟨n, e1, e2, e3, e4⟩ := lookL_ix (β := V) e
    obtain ⟨w, f1, ff, f2, a, b, c, d⟩ := OwnL.focus r e1
    subst b
    refine ⟨w, p :: f1, ff, f2, ⟨p, C, dx, gs, rfl, h, lookup_ix (by rw [m]; exact e2) a (by rw [m]; exact e4)⟩, rfl, c, fun G2 H2 u2 ff2 s k o2 => ?_⟩
    simp only [T.put1, Own]
    rw [e3]
    exact ⟨p, dx, gs, f1 ++ (ff2 ++ f2), rfl, rfl, (k p (.inl (by simp))).trans h, m, d G2 H2 u2 ff2 s (fun q hq => k q (hq.imp (fun z => by simp [z]) id)) o2⟩
  · rename_i ks l g
    simp only [Own] at o
    obtain ⟨p, gs, f, rfl, rfl, h, m, r⟩ := o
    obtain ⟨n, e1, e2, e3, e4⟩ := lookL_ix (β := V) e
    obtain ⟨w, f1, ff, f2, a, b, c, d⟩ := OwnL.focus r e1
    subst b
    refine ⟨w, p :: f1, ff, f2, ⟨p, gs, rfl, h, valV_ix (by rw [m]; exact e2) a (by rw [m]; exact e4)⟩, rfl, c, fun G2 H2 u2 ff2 s k o2 => ?_⟩
    simp only [T.put1, Own]
    rw [e3]
    exact ⟨p, gs, f1 ++ (ff2 ++ f2), rfl, rfl, (k p (.inl (by simp))).trans h, m, d G2 H2 u2 ff2 s (fun q hq => k q (hq.imp (fun z => by simp [z]) id)) o2⟩
  · rename_i ks l g
    simp only [Own] at o
    obtain ⟨p, gs, f, rfl, rfl, h, m, r⟩ := o
    obtain ⟨n, e1, e2, e3, e4⟩ := lookL_ix (β := V) e
    obtain ⟨w, f1, ff, f2, a, b, c, d⟩ := OwnL.focus r e1
    subst b
    refine ⟨w, p :: f1, ff, f2, ⟨p, gs, rfl, h, valV_ix (by rw [m]; exact e2) a (by rw [m]; exact e4)⟩, rfl, c, fun G2 H2 u2 ff2 s k o2 => ?_⟩
    simp only [T.put1, Own]
    rw [e3]
    exact ⟨p, gs, f1 ++ (ff2 ++ f2), rfl, rfl, (k p (.inl (by simp))).trans h, m, d G2 H2 u2 ff2 s (fun q hq => k q (hq.imp (fun z => by simp [z]) id)) o2⟩
  · cases e
theorem Own.focus : ∀ {π : List Step} {t u : T} {v : V} {fp : List Addr}, Own K G H t v fp → t.at π = some u →
    ∃ w f1 ff f2, VAt H v π w ∧ fp = f1 ++ (ff ++ f2) ∧ Own K G H u w ff ∧ ∀ (G2 H2 : Hp) u2 ff2, Same G G2 → (∀ p, p ∈ f1 ∨ p ∈ f2 → H2 p = H p) → Own K G2 H2 u2 w ff2 → Own K G2 H2 (t.put π u2) v (f1 ++ (ff2 ++ f2))
  | [], t, u, v, fp, o, e => by
    simp only [T.at, Option.some.injEq] at e
    subst e
    exact ⟨v, [], fp, [], rfl, by simp, o, fun G2 H2 u2 ff2 s k o2 => by simpa [T.put] using o2⟩
  | s :: π, t, u, v, fp, o, e => by
    simp only [T.at] at e
    cases q : t.step s with
    | none => rw [q] at e; cases e
    | some x =>
      rw [q] at e
      simp only [Option.bind_some] at e
      obtain ⟨w, f1, ff, f2, a, b, c, d⟩ := o.focus1 q
      obtain ⟨w', g1, gg, g2, a', b', c', d'⟩ := Own.focus c e
      subst b b'
      refine ⟨w', f1 ++ g1, gg, g2 ++ f2, ⟨w, a, a'⟩, by simp, c', fun G2 H2 u2 ff2 s' k o2 => ?_⟩
      simp only [T.put, q]
      have := d G2 H2 (x.put π u2) (g1 ++ (ff2 ++ g2)) s' (fun p hp => k p (hp.imp (fun z => by simp [z]) fun z => by simp [z])) (d' G2 H2 u2 ff2 s' (fun p hp => k p (hp.imp (fun z => by simp [z]) fun z => by simp [z])) o2)
      simpa using this
theorem Own.vat {π : List Step} {t u : T} {v w : V} {fp : List Addr} (o : Own K G H t v fp) (e : t.at π = some u) (h : VAt H v π w) : ∃ f, Own K G H u w f ∧ ∀ p ∈ f, p ∈ fp := by
  obtain ⟨w', f1, ff, f2, a, b, c, _⟩ := o.focus e
  have := h.det a
  subst this
  exact ⟨ff, c, fun p hp => by rw [b]; simp [hp]⟩
end
theorem T.at_snoc {s : Step} : ∀ {π : List Step} {t : T}, t.at (π ++ [s]) = (t.at π).bind fun u => u.step s
  | [], t => by simp [T.at]
  | s' :: π, t => by
    simp only [List.cons_append, T.at]
    cases t.step s' with
    | none => rfl
    | some x => simp only [Option.bind_some]; exact T.at_snoc

/-! ### the judgement -/
abbrev FP := Env → Option (EO (List Step))
/-- the part of ρ at a place -/
def atE (i : Nat) (π : List Step) (ρ : Env) : Option T := match ρ[i]? with | some (some t) => t.at π | _ => none
def putE (i : Nat) (π : List Step) (u : T) (ρ : Env) : Env := match ρ[i]? with | some (some t) => ρ.set i (some (t.put π u)) | _ => ρ
def PlOK (K : PySem.W.Frag) (W : WX) (te : TE) (i : Nat) (f : FP) : Prop := ∀ ρ G H σ Q, Same G H → Slots K G H σ ρ →
  Post K W G H σ (fun π => (∃ u, atE i π ρ = some u) ∧ ∀ v0 w G' H', Grow G H G' H' → σ[i]? = some (some v0) → VAt H' v0 π w → Q w H') (f ρ) → te σ H Q
def DP (X : Cx) (W : WX) (e : Expr) (i : Nat) (f : FP) : Prop := ∃ te, PE X e te ∧ PlOK X.K W te i f
section
variable {X : Cx} {W : WX} {fr : Bool} {e a b : Expr} {pos : Pos} {i : Nat} {f : FP} {fe : FE}
def hereP (i : Nat) : FP := fun ρ => match ρ[i]? with | some (some _) => some (.ok []) | _ => none
theorem atE_some {i : Nat} {π : List Step} {ρ : Env} {u : T} (h : atE i π ρ = some u) : ∃ t, ρ[i]? = some (some t) ∧ t.at π = some u := by
  unfold atE at h
  split at h
  · rename_i t q; exact ⟨t, q, h⟩
  · cases h
theorem dp_var (i : Nat) {x : Str} (hN : X.N[i]? = some x := by rfl) (hv : Vis X.env.scope x := by first | exact Or.inl rfl | exact Or.inr (Or.inl rfl) | exact Or.inr (Or.inr rfl)) (hd : (x == ("__debug__" : Str)) = false := by decide)
    (hcd : (x == ("__classdict__" : Str)) = false := by decide) : DP X W (.Name x pos) i (hereP i) := by
  refine ⟨_, pv i hN hv hd hcd, fun ρ G H σ Q s sl h => ?_⟩
  unfold hereP at h
  cases q : ρ[i]? with
  | none => rw [q] at h; exact h.elim
  | some o =>
    rw [q] at h
    cases o with
    | none => exact h.elim
    | some t =>
      obtain ⟨v, fp, e, _, _⟩ := sl.2 i t q
      exact ⟨v, e, h.2 v v G H (Grow.refl s) e rfl⟩
/-- p.f -/
def fldP (C : Addr) (n : Str) (i : Nat) (f : FP) : FP := fun ρ => bindE (f ρ) fun π => match atE i π ρ with
  | some (.ins C' ks l) => if C' = C ∧ (lookL ks l n).isSome then some (.ok (π ++ [.fld n])) else none
  | _ => none
theorem plok_fld {K : PySem.W.Frag} {te : TE} {C : Addr} {n : Str} (c : Cls K C) (na : NoAttr K C n) (k : PlOK K W te i f) : PlOK K W (tFld K te n) i (fldP C n i f) := by
  intro ρ G H σ Q s sl h
  refine k ρ G H σ _ s sl (h.bind.imp fun π hp => ?_)
  cases q : atE i π ρ with
  | none => rw [q] at hp; exact hp.elim
  | some u =>
    rw [q] at hp
    cases u with
    | ins C' ks l =>
      simp only at hp
      by_cases hc : C' = C ∧ (lookL ks l n).isSome
      · rw [if_pos hc] at hp
        obtain ⟨rfl, hs⟩ := hc
        obtain ⟨x, hx⟩ := Option.isSome_iff_exists.mp hs
        obtain ⟨t, q1, q2⟩ := atE_some q
        refine ⟨⟨_, rfl⟩, fun v0 w G' H' g hv hw => ?_⟩
        obtain ⟨v0', fp, e1, o, _⟩ := (sl.grow g).2 i t q1
        rw [hv] at e1; cases e1
        obtain ⟨f', o', _⟩ := o.vat q2 hw
        have o'' := o'
        simp only [Own] at o'
        obtain ⟨p, dx, gs, f2, rfl, _, hh, _, _⟩ := o'
        obtain ⟨y, _, _, _, hy, _, _, _⟩ := o''.focus1 (s := .fld n) (u := x) hx
        obtain ⟨p', C2, dx', gs', e2, h2, hl⟩ := hy
        cases e2
        rw [hh] at h2; cases h2
        exact ⟨p, C', dx, gs, y, rfl, hh, c, na, hl, hp.2 v0 y G' H' g hv (hw.snoc ⟨p, C', dx, gs, rfl, hh, hl⟩)⟩
      · rw [if_neg hc] at hp; exact hp.elim
    | _ => exact hp.elim
theorem dp_fld {C : Addr} {n : Str} (c : Cls X.K C) (na : NoAttr X.K C n) (h : DP X W e i f) (hb : attributeBase e n X.env (eval e X.env) = eval e X.env := by rfl) : DP X W (.Attribute e n pos) i (fldP C n i f) := by
  obtain ⟨te, p, k⟩ := h
  exact ⟨_, pe_fld p hb, plok_fld c na k⟩
/-- p[e], in a list -/
def ixP (i : Nat) (f : FP) (fe : FE) : FP := fun ρ => bindE (f ρ) fun π => match atE i π ρ with
  | some (.lst l) => bindE (fe ρ) fun t => match (intT t).bind fun k => ixN l.length k with
    | some n => if n < l.length then some (.ok (π ++ [.ix n])) else none
    | none => none
  | _ => none
theorem dp_ix (hs : PlainIx b) (h : DP X W a i f) (hb : DE fr X W b fe) : DP X W (.Subscript a b pos) i (ixP i f fe) := by
  obtain ⟨te, p, k⟩ := h
  obtain ⟨tb, p2, k2⟩ := hb
  refine ⟨_, pe_ix ix_list p p2 hs, fun ρ G H σ Q s sl h => ?_⟩
  refine k ρ G H σ _ s sl (h.bind.imp fun π hp => ?_)
  cases q : atE i π ρ with
  | none => rw [q] at hp; exact hp.elim
  | some u =>
    rw [q] at hp
    cases u with
    | lst l =>
      simp only at hp
      obtain ⟨t0, q1, q2⟩ := atE_some q
      refine ⟨⟨_, rfl⟩, fun v0 w G1 H1 g1 hv hw => ?_⟩
      refine k2 ρ G1 H1 σ _ g1.gh (sl.grow g1) ((hp.bind.grow g1).imp fun t ht y G2 H2 f2 g2 o2 c2 => ?_)
      cases q3 : (intT t).bind fun k => ixN l.length k with
      | none => rw [q3] at ht; exact ht.elim
      | some n =>
        rw [q3] at ht
        simp only at ht
        by_cases hn : n < l.length
        · rw [if_pos hn] at ht
          cases q4 : intT t with
          | none => rw [q4] at q3; cases q3
          | some j =>
            rw [q4] at q3
            simp only [Option.bind_some] at q3
            have := intT_own q4 o2
            subst this
            obtain ⟨v0', fp, e1, o, _⟩ := ((sl.grow g1).grow g2).2 i t0 q1
            rw [hv] at e1; cases e1
            have hw2 := hw.mono g2.h
            obtain ⟨f', o', _⟩ := o.vat q2 hw2
            have o'' := o'
            simp only [Own] at o'
            obtain ⟨p, xs, f2, rfl, _, hh, r⟩ := o'
            have hl := OwnL.length _ _ _ r
            obtain ⟨x, _, _, _, hy, _, _, _⟩ := o''.focus1 (s := .ix n) (u := l[n]) (by simp [T.step, hn])
            obtain ⟨p', xs', e2, h2, hx⟩ := hy
            cases e2
            have exs : xs' = xs := by rcases h2 with h2 | h2 <;> rw [hh] at h2 <;> cases h2; rfl
            subst exs
            refine ⟨p, xs', j, x, rfl, rfl, .of hh, ?_, ht.2 v0 x G2 H2 (g1.trans g2) hv (hw2.snoc ⟨p, xs', rfl, .inl hh, hx⟩)⟩
            unfold atI
            rw [hl, q3]
            exact hx
        · rw [if_neg hn] at ht; exact ht.elim
    | _ => exact hp.elim
def ixPT (i : Nat) (f : FP) (fe : FE) : FP := fun ρ => bindE (f ρ) fun π => match atE i π ρ with
  | some (.tup l) => bindE (fe ρ) fun t => match (intT t).bind fun k => ixN l.length k with
    | some n => if n < l.length then some (.ok (π ++ [.ix n])) else none
    | none => none
  | _ => none
theorem dp_ixT (hs : PlainIx b) (h : DP X W a i f) (hb : DE fr X W b fe) : DP X W (.Subscript a b pos) i (ixPT i f fe) := by
  obtain ⟨te, p, k⟩ := h
  obtain ⟨tb, p2, k2⟩ := hb
  refine ⟨_, pe_ix ix_tup p p2 hs, fun ρ G H σ Q s sl h => ?_⟩
  refine k ρ G H σ _ s sl (h.bind.imp fun π hp => ?_)
  cases q : atE i π ρ with
  | none => rw [q] at hp; exact hp.elim
  | some u =>
    rw [q] at hp
    cases u with
    | tup l =>
      simp only at hp
      obtain ⟨t0, q1, q2⟩ := atE_some q
      refine ⟨⟨_, rfl⟩, fun v0 w G1 H1 g1 hv hw => ?_⟩
      refine k2 ρ G1 H1 σ _ g1.gh (sl.grow g1) ((hp.bind.grow g1).imp fun t ht y G2 H2 f2 g2 o2 c2 => ?_)
      cases q3 : (intT t).bind fun k => ixN l.length k with
      | none => rw [q3] at ht; exact ht.elim
      | some n =>
        rw [q3] at ht
        simp only at ht
        by_cases hn : n < l.length
        · rw [if_pos hn] at ht
          cases q4 : intT t with
          | none => rw [q4] at q3; cases q3
          | some j =>
            rw [q4] at q3
            simp only [Option.bind_some] at q3
            have := intT_own q4 o2
            subst this
            obtain ⟨v0', fp, e1, o, _⟩ := ((sl.grow g1).grow g2).2 i t0 q1
            rw [hv] at e1; cases e1
            have hw2 := hw.mono g2.h
            obtain ⟨f', o', _⟩ := o.vat q2 hw2
            have o'' := o'
            simp only [Own] at o'
            obtain ⟨p, xs, f2, rfl, _, hh, r⟩ := o'
            have hl := OwnL.length _ _ _ r
            obtain ⟨x, _, _, _, hy, _, _, _⟩ := o''.focus1 (s := .ix n) (u := l[n]) (by simp [T.step, hn])
            obtain ⟨p', xs', e2, h2, hx⟩ := hy
            cases e2
            have exs : xs' = xs := by rcases h2 with h2 | h2 <;> rw [hh] at h2 <;> cases h2; rfl
            subst exs
            refine ⟨p, xs', j, x, rfl, rfl, .inl (.inl hh), ?_, ht.2 v0 x G2 H2 (g1.trans g2) hv (hw2.snoc ⟨p, xs', rfl, .inr hh, hx⟩)⟩
            unfold atI
            rw [hl, q3]
            exact hx
        · rw [if_neg hn] at ht; exact ht.elim
    | _ => exact hp.elim
/-- a place read: its part -/
def rdP (i : Nat) (f : FP) : FE := fun ρ => bindE (f ρ) fun π => liftO (atE i π ρ)
theorem dr_place (h : DP X W e i f) : DE false X W e (rdP i f) := by
  obtain ⟨te, p, k⟩ := h
  refine ⟨te, p, fun ρ G H σ Q s sl h => ?_⟩
  refine k ρ G H σ _ s sl (h.bind.imp fun π hp => ?_)
  obtain ⟨u, q, kk⟩ := hp.lift
  obtain ⟨t, q1, q2⟩ := atE_some q
  refine ⟨⟨u, q⟩, fun v0 w G' H' g hv hw => ?_⟩
  obtain ⟨v0', fp, e1, o, c⟩ := (sl.grow g).2 i t q1
  rw [hv] at e1; cases e1
  obtain ⟨f', o', hf⟩ := o.vat q2 hw
  exact kk w G' H' f' g o' ⟨fun p hp => c p (hf p hp), fun z => Bool.noConfusion z⟩
end
/-! ### a place is changed -/
section
variable {K : PySem.W.Frag} {A : Act} {G H : Hp} {σ : St} {ρ : Env}
/-- what stands at a place gets another object at its address, its parts and what is at hand within -/
theorem SttV.change {i : Nat} {π : List Step} {u u2 : T} {t0 : T} {p : Addr} {o2 : HO} {ts us : List T} {vs ws : List V} (S : SttV K A G H σ ρ (ts ++ us) (vs ++ ws)) (hl : vs.length = ts.length) (q1 : ρ[i]? = some (some t0)) (q2 : t0.at π = some u) {v0 : V} (hv : σ[i]? = some (some v0)) (hw : VAt H v0 π (.ref p))
    (hu : ∀ f, Own K G H u (.ref p) f → f.head? = some p)
    (mk : ∀ f g, Own K G H u (.ref p) (p :: f) → OwnL K G H ts vs g → p ∉ f ++ g → ∃ f2, Own K G (upd H p o2) u2 (.ref p) (p :: f2) ∧ List.Perm f2 (f ++ g)) :
    SttV K A G (upd H p o2) σ (putE i π u2 ρ) us ws := by
  obtain ⟨fp, f, a, b, cc, d⟩ := S.own
  have hi : i < ρ.length := (List.getElem?_eq_some_iff.mp q1).1
  obtain ⟨s, r, f1, ff, f2, e1, e2, e3, h4, h5⟩ := a.split hi
  rw [q1] at e2; cases e2
  obtain ⟨v, rfl, o⟩ := h4
  rw [hv] at e1; cases e1
  obtain ⟨w, g1, gg, g2, va, eg, ou, kk⟩ := o.focus q2
  have := hw.det va
  subst this
  -- the values at hand, apart
  have sp : ∃ ga gb, f = ga ++ gb ∧ OwnL K G H ts vs ga ∧ OwnL K G H us ws gb := by
    clear hu mk S cc d a h5 e3
    induction ts generalizing vs f with
    | nil =>
      cases vs with
      | nil => exact ⟨[], f, rfl, by simp [OwnL], b⟩
      | cons _ _ => simp at hl
    | cons t ts ih =>
      cases vs with
      | nil => simp at hl
      | cons v vs =>
        obtain ⟨x1, x2, ex, ox, bx⟩ := OwnL.cons_iff.mp b
        obtain ⟨ga, gb, eq, h1, h2⟩ := ih (by simpa using hl) x2 bx
        exact ⟨x1 ++ ga, gb, by rw [ex, eq, List.append_assoc], OwnL.cons_iff.mpr ⟨x1, ga, rfl, ox, h1⟩, h2⟩
  obtain ⟨ga, gb, efg, oa, ob⟩ := sp
  have hh := hu gg ou
  cases gg with
  | nil => cases hh
  | cons p' gg =>
    have : p' = p := by simpa using hh
    subst this
    subst e3 efg
    subst eg
    -- all addresses, in another order
    have perm : List.Perm (f1 ++ ((g1 ++ (p' :: gg ++ g2)) ++ f2) ++ (ga ++ gb)) (p' :: ((gg ++ ga) ++ (f1 ++ g1 ++ g2 ++ f2 ++ gb))) := by
      have p1 : List.Perm (f1 ++ ((g1 ++ (p' :: gg ++ g2)) ++ f2) ++ (ga ++ gb)) ((p' :: gg) ++ (f1 ++ g1 ++ g2 ++ f2) ++ (ga ++ gb)) := by
        refine List.Perm.append_right _ ?_
        have : f1 ++ (g1 ++ (p' :: gg ++ g2) ++ f2) = (f1 ++ g1) ++ ((p' :: gg) ++ (g2 ++ f2)) := by simp
        rw [this]
        refine List.perm_append_comm_assoc _ _ _ |>.trans ?_
        simp
      refine p1.trans ?_
      simp only [List.cons_append]
      refine List.Perm.cons _ ?_
      have : gg ++ (f1 ++ g1 ++ g2 ++ f2) ++ (ga ++ gb) = gg ++ ((f1 ++ g1 ++ g2 ++ f2) ++ (ga ++ gb)) := by simp
      rw [this, List.append_assoc gg ga]
      exact List.Perm.append_left _ (List.perm_append_comm_assoc _ _ _)
    have nd := perm.nodup_iff.mp cc
    have ndp := (List.nodup_cons.mp nd).1
    have pn : p' ∉ gg ++ ga := fun z => ndp (List.mem_append_left _ z)
    obtain ⟨x, ox, px⟩ := mk gg ga ou oa pn
    have hG : G p' = none := (d p' (by simp)).1
    have keepR : ∀ q, q ∈ f1 ++ g1 ++ g2 ++ f2 ++ gb → upd H p' o2 q = H q := fun q hq => upd_ne (show q ≠ p' from fun z => ndp (List.mem_append_right _ (z ▸ hq)))
    have su : ∀ b o, A.H0 b = some o → b ∉ A.fp0 → b ≠ p' := fun b o e n z => by
      rcases (d p' (by simp)).2 with y | y
      · rw [← z, e] at y; cases y
      · exact n (z ▸ y)
    have o3 := kk G (upd H p' o2) u2 (p' :: x) (Same.refl G) (fun q hq => keepR q (by rcases hq with hq | hq <;> simp [hq])) ox
    have es : σ.set i (some v0) = σ := by
      apply List.ext_getElem?
      intro j
      by_cases hj : i = j
      · subst hj
        rw [List.getElem?_set_self (List.getElem?_eq_some_iff.mp hv).1, hv]
      · rw [List.getElem?_set_ne hj]
    have sl := h5 G (upd H p' o2) (some v0) (some (t0.put π u2)) _ (Same.refl G) (fun q hq => keepR q (by rcases hq with hq | hq <;> simp [hq])) ⟨v0, rfl, o3⟩
    rw [es] at sl
    have ep : putE i π u2 ρ = ρ.set i (some (t0.put π u2)) := by unfold putE; rw [q1]
    have perm2 : List.Perm (f1 ++ (g1 ++ (p' :: x ++ g2) ++ f2) ++ gb) (p' :: ((gg ++ ga) ++ (f1 ++ g1 ++ g2 ++ f2 ++ gb))) := by
      have p1 : List.Perm (f1 ++ (g1 ++ (p' :: x ++ g2) ++ f2) ++ gb) ((p' :: x) ++ (f1 ++ g1 ++ g2 ++ f2) ++ gb) := by
        refine List.Perm.append_right _ ?_
        have : f1 ++ (g1 ++ (p' :: x ++ g2) ++ f2) = (f1 ++ g1) ++ ((p' :: x) ++ (g2 ++ f2)) := by simp
        rw [this]
        refine List.perm_append_comm_assoc _ _ _ |>.trans ?_
        simp
      refine p1.trans ?_
      simp only [List.cons_append]
      refine List.Perm.cons _ ?_
      rw [List.append_assoc x]
      exact List.Perm.append_right _ px
    rw [ep]
    refine ⟨fun b o e => ?_, S.gg, fun b o e n => ?_, S.n, _, gb, sl, OwnL.mono (Same.refl G) _ _ _ (fun q hq => keepR q (by simp [hq])) ob, perm2.nodup_iff.mpr nd, fun q hq => ?_⟩
    · rw [upd_ne (ne_of_none e hG)]
      exact S.gh b o e
    · rw [upd_ne (su b o e n)]
      exact S.hh b o e n
    · exact d q (perm.mem_iff.mpr (perm2.mem_iff.mp hq))
end
end DV

namespace DV
open PySem PySem.Spec PyProof.Rows L2
section
variable {K : PySem.W.Frag} {A : Act} {G H : Hp} {σ : St} {ρ : Env}
theorem lst_head {l : List T} {p : Addr} : ∀ f, Own K G H (.lst l) (.ref p) f → f.head? = some p := fun f o => by
  simp only [Own] at o
  obtain ⟨q, xs, g, e, rfl, _⟩ := o
  cases e; rfl
theorem dct_head {ks : List Key} {l : List T} {p : Addr} : ∀ f, Own K G H (.dct ks l) (.ref p) f → f.head? = some p := fun f o => by
  simp only [Own] at o
  obtain ⟨q, xs, g, e, rfl, _⟩ := o
  cases e; rfl
theorem dtt_head {ks : List (List Key)} {l : List T} {p : Addr} : ∀ f, Own K G H (.dtt ks l) (.ref p) f → f.head? = some p := fun f o => by
  simp only [Own] at o
  obtain ⟨q, xs, g, e, rfl, _⟩ := o
  cases e; rfl
theorem ins_head {C : Addr} {ks : List Str} {l : List T} {p : Addr} : ∀ f, Own K G H (.ins C ks l) (.ref p) f → f.head? = some p := fun f o => by
  simp only [Own] at o
  obtain ⟨q, dx, xs, g, e, rfl, _⟩ := o
  cases e; rfl
/-- where a place's list stands -/
theorem SttV.place {i : Nat} {π : List Step} {u : T} {ts : List T} {vs : List V} (S : SttV K A G H σ ρ ts vs) (q : atE i π ρ = some u) {v0 w : V} (hv : σ[i]? = some (some v0)) (hw : VAt H v0 π w) : ∃ t0 f, ρ[i]? = some (some t0) ∧ t0.at π = some u ∧ Own K G H u w f := by
  obtain ⟨t0, q1, q2⟩ := atE_some q
  obtain ⟨v0', fp, e1, o, _⟩ := S.slots.2 i t0 q1
  rw [hv] at e1; cases e1
  obtain ⟨f, o', _⟩ := o.vat q2 hw
  exact ⟨t0, f, q1, q2, o'⟩
theorem SttV.append {i : Nat} {π : List Step} {l : List T} {t : T} {y : V} {us : List T} {ws : List V} (S : SttV K A G H σ ρ (t :: us) (y :: ws)) (q : atE i π ρ = some (.lst l)) {v0 w : V} (hv : σ[i]? = some (some v0)) (hw : VAt H v0 π w) :
    ∃ p xs, w = .ref p ∧ H p = some (.lst xs) ∧ xs.length = l.length ∧ SttV K A G (upd H p (.lst (xs ++ [y]))) σ (putE i π (.lst (l ++ [t])) ρ) us ws := by
  obtain ⟨t0, f, q1, q2, o⟩ := S.place q hv hw
  have o' := o
  simp only [Own] at o'
  obtain ⟨p, xs, f2, rfl, _, hh, r⟩ := o'
  refine ⟨p, xs, rfl, hh, OwnL.length _ _ _ r, S.change (ts := [t]) (vs := [y]) rfl q1 q2 hv hw lst_head fun f g ou oa pn => ?_⟩
  simp only [Own] at ou
  obtain ⟨p', xs', f3, e, ef, h', r'⟩ := ou
  cases e
  cases ef
  rw [hh] at h'; cases h'
  refine ⟨f ++ g, ?_, List.Perm.refl _⟩
  simp only [Own]
  refine ⟨p, xs ++ [y], f ++ g, rfl, rfl, upd_same, OwnL.append (OwnL.mono (Same.refl G) _ _ _ (fun z hz => upd_ne (show z ≠ p from fun z' => pn (by simp [← z', hz]))) r') (OwnL.mono (Same.refl G) _ _ _ (fun z hz => upd_ne (show z ≠ p from fun z' => pn (by simp [← z', hz]))) oa)⟩
/-- o.extend(zs), zs shared -/
theorem SttV.extend {i : Nat} {π : List Step} {l : List T} {ds : List D} {ys : List V} {us : List T} {ws : List V} (S : SttV K A G H σ ρ us ws) (q : atE i π ρ = some (.lst l)) (rd : RepL K G ds ys) {v0 w : V} (hv : σ[i]? = some (some v0)) (hw : VAt H v0 π w) :
    ∃ p xs, w = .ref p ∧ H p = some (.lst xs) ∧ xs.length = l.length ∧ SttV K A G (upd H p (.lst (xs ++ ys))) σ (putE i π (.lst (l ++ ds.map T.sh)) ρ) us ws := by
  obtain ⟨t0, f, q1, q2, o⟩ := S.place q hv hw
  have o' := o
  simp only [Own] at o'
  obtain ⟨p, xs, f2, rfl, _, hh, r⟩ := o'
  refine ⟨p, xs, rfl, hh, OwnL.length _ _ _ r, S.change (ts := []) (vs := []) rfl q1 q2 hv hw lst_head fun f g ou oa pn => ?_⟩
  simp only [Own] at ou
  obtain ⟨p', xs', f3, e, ef, h', r'⟩ := ou
  cases e
  cases ef
  rw [hh] at h'; cases h'
  have eg : g = [] := by simp only [OwnL] at oa; exact oa.2
  subst eg
  refine ⟨f, ?_, by simp⟩
  simp only [Own]
  refine ⟨p, xs ++ ys, f, rfl, rfl, upd_same, ?_⟩
  have := OwnL.append (OwnL.mono (H' := upd H p (.lst (xs ++ ys))) (Same.refl G) _ _ _ (fun z hz => upd_ne (show z ≠ p from fun z' => pn (by simp [← z', hz]))) r') (OwnL.of_rep (H := upd H p (.lst (xs ++ ys))) rd)
  simpa using this
end
section
variable {X : Cx} {W : WX} {fr : Bool} {e o : Expr} {pos apos cpos : Pos} {i j : Nat} {f : FP} {fe : FE}
def appendF (i : Nat) (f : FP) (fe : FE) : FS := fun ρ => runE (f ρ) ρ fun π => match atE i π ρ with
  | some (.lst l) => runE (fe ρ) ρ fun t => if l.length < sizeLine then some (.nx (putE i π (.lst (l ++ [t])) ρ)) else none
  | _ => none
theorem ds_append (ho : DP X W o i f) (he : DE true X W e fe) (hbase : attributeBase o "append" X.env (eval o X.env) = eval o X.env := by rfl)
    (hfew : ((backTo cpos (starEach [e] X.env)).all (fun x => !x.1) && (backToKw cpos (keywordEach [] X.env)).all (fun x => x.1.isSome)
      && decide ([e].length + ([] : List Keyword).length + (if ([] : List Keyword).isEmpty then 0 else 1) < 30)) = true := by rfl)
    (hline : (apos.endLine == cpos.line) = true := by rfl) (hs : starEach [e] X.env = (false, eval e X.env) :: starEach [] X.env := by rfl) (hplain : (backTo cpos (starEach [] X.env)).any (·.1) = false := by rfl)
    (hsw : swapsWith (.Call (.Attribute o "append" apos) [e] [] cpos) none pos.line X.env = pure false := by rfl) : DS X W (.Expr (.Call (.Attribute o "append" apos) [e] [] cpos) pos) (appendF i f fe) := by
  obtain ⟨to, p1, k1⟩ := ho
  obtain ⟨te, p2, k2⟩ := he
  refine ⟨_, ps_expr (pe_bm PySem.F.plainAttrs_list PySem.F.slot_list_append PySem.F.type_list_append mt_append p1 (pa_cons p2 pa_nil hs) hbase hfew hline hs hplain) hsw, fun A ρ G H σ D S h => ?_⟩
  refine k1 ρ G H σ _ S.gh S.slots ((PostS.run S h).imp fun π hp => ?_)
  cases q : atE i π ρ with
  | none => rw [q] at hp; exact hp.elim
  | some u =>
    rw [q] at hp
    cases u with
    | lst l =>
      simp only at hp
      refine ⟨⟨_, rfl⟩, fun v0 w G1 H1 g1 hv hw => ?_⟩
      have S1 := S.grow g1
      obtain ⟨t0, f0, _, _, oo⟩ := S1.place q hv hw
      have oo' := oo
      simp only [Own] at oo'
      obtain ⟨p, xs, f2, rfl, _, hh, _⟩ := oo'
      refine ⟨.inl ⟨rfl, xs, .of hh⟩, ?_⟩
      refine k2 ρ G1 H1 σ _ S1.gh S1.slots ((PostS.run S1 hp).imp fun t ht y G2 H2 fp g2 o2 c2 => ?_)
      by_cases hl : l.length < sizeLine
      · rw [if_pos hl] at ht
        have S2 := S1.take g2 o2 c2
        obtain ⟨p', xs', e', h', hx, S3⟩ := S2.append q hv (hw.mono g2.h)
        cases e'
        exact ⟨p, xs', y, rfl, rfl, h', by rw [hx]; exact hl, ht σ G2 _ S3⟩
      · rw [if_neg hl] at ht; exact ht.elim
    | _ => exact hp.elim
/-- o.append(y), whatever y holds -/
def appendMv (i : Nat) (f : FP) (j : Nat) : FS := fun ρ => runE (f ρ) ρ fun π => match atE i π ρ, ρ[j]? with
  | some (.lst l), some (some t) => if i ≠ j ∧ l.length < sizeLine then some (.nx (putE i π (.lst (l ++ [t])) (ρ.set j none))) else none
  | _, _ => none
theorem ds_appendMv (j : Nat) {y : Str} {p : Pos} (ho : DP X W o i f) (hN : X.N[j]? = some y := by rfl) (hv : Vis X.env.scope y := by first | exact Or.inl rfl | exact Or.inr (Or.inl rfl) | exact Or.inr (Or.inr rfl)) (hd : (y == ("__debug__" : Str)) = false := by decide)
    (hcd : (y == ("__classdict__" : Str)) = false := by decide) (hbase : attributeBase o "append" X.env (eval o X.env) = eval o X.env := by rfl)
    (hfew : ((backTo cpos (starEach [.Name y p] X.env)).all (fun x => !x.1) && (backToKw cpos (keywordEach [] X.env)).all (fun x => x.1.isSome)
      && decide ([Expr.Name y p].length + ([] : List Keyword).length + (if ([] : List Keyword).isEmpty then 0 else 1) < 30)) = true := by rfl)
    (hline : (apos.endLine == cpos.line) = true := by rfl) (hs : starEach [.Name y p] X.env = (false, eval (.Name y p) X.env) :: starEach [] X.env := by rfl) (hplain : (backTo cpos (starEach [] X.env)).any (·.1) = false := by rfl)
    (hsw : swapsWith (.Call (.Attribute o "append" apos) [.Name y p] [] cpos) none pos.line X.env = pure false := by rfl) : DS X W (.Expr (.Call (.Attribute o "append" apos) [.Name y p] [] cpos) pos) (appendMv i f j) := by
  obtain ⟨to, p1, k1⟩ := ho
  refine ⟨_, ps_expr (pe_bm PySem.F.plainAttrs_list PySem.F.slot_list_append PySem.F.type_list_append mt_append p1 (pa_cons (pv j hN hv hd hcd) pa_nil hs) hbase hfew hline hs hplain) hsw, fun A ρ G H σ D S h => ?_⟩
  refine k1 ρ G H σ _ S.gh S.slots ((PostS.run S h).imp fun π hp => ?_)
  cases q : atE i π ρ with
  | none => rw [q] at hp; exact hp.elim
  | some u =>
    rw [q] at hp
    cases u with
    | lst l =>
      cases q2 : ρ[j]? with
      | none => rw [q2] at hp; exact hp.elim
      | some oj =>
        rw [q2] at hp
        cases oj with
        | none => exact hp.elim
        | some t =>
          simp only at hp
          by_cases hl : i ≠ j ∧ l.length < sizeLine
          · rw [if_pos hl] at hp
            refine ⟨⟨_, rfl⟩, fun v0 w G1 H1 g1 hv hw => ?_⟩
            have S1 := S.grow g1
            obtain ⟨t0, f0, _, _, oo⟩ := S1.place q hv hw
            have oo' := oo
            simp only [Own] at oo'
            obtain ⟨p, xs, f2, rfl, _, hh, _⟩ := oo'
            refine ⟨.inl ⟨rfl, xs, .of hh⟩, ?_⟩
            obtain ⟨y', ey, S2⟩ := S1.move q2
            have q' : atE i π (ρ.set j none) = some (.lst l) := by
              unfold atE at q ⊢
              rw [List.getElem?_set_ne (fun z => hl.1 z.symm)]
              exact q
            obtain ⟨p', xs', e', h', hx, S3⟩ := S2.append q' hv hw
            cases e'
            exact ⟨y', ey, p, xs', y', rfl, rfl, h', by rw [hx]; exact hl.2, hp σ G1 _ S3⟩
          · rw [if_neg hl] at hp; exact hp.elim
    | _ => exact hp.elim
/-- o.extend(e): e's items -/
def extendF (i : Nat) (f : FP) (fe : FE) : FS := fun ρ => runE (f ρ) ρ fun π => match atE i π ρ with
  | some (.lst l) => runE (fe ρ) ρ fun t => match t.d with
    | .lst ds => if l.length + ds.length ≤ sizeLine then some (.nx (putE i π (.lst (l ++ ds.map T.sh)) ρ)) else none
    | _ => none
  | _ => none
theorem ds_extend (ho : DP X W o i f) (he : DE true X W e fe) (hbase : attributeBase o "extend" X.env (eval o X.env) = eval o X.env := by rfl)
    (hfew : ((backTo cpos (starEach [e] X.env)).all (fun x => !x.1) && (backToKw cpos (keywordEach [] X.env)).all (fun x => x.1.isSome)
      && decide ([e].length + ([] : List Keyword).length + (if ([] : List Keyword).isEmpty then 0 else 1) < 30)) = true := by rfl)
    (hline : (apos.endLine == cpos.line) = true := by rfl) (hs : starEach [e] X.env = (false, eval e X.env) :: starEach [] X.env := by rfl) (hplain : (backTo cpos (starEach [] X.env)).any (·.1) = false := by rfl)
    (hsw : swapsWith (.Call (.Attribute o "extend" apos) [e] [] cpos) none pos.line X.env = pure false := by rfl) : DS X W (.Expr (.Call (.Attribute o "extend" apos) [e] [] cpos) pos) (extendF i f fe) := by
  obtain ⟨to, p1, k1⟩ := ho
  obtain ⟨te, p2, k2⟩ := he
  refine ⟨_, ps_expr (pe_bm PySem.F.plainAttrs_list PySem.F.slot_list_extend PySem.F.type_list_extend mt_extend p1 (pa_cons p2 pa_nil hs) hbase hfew hline hs hplain) hsw, fun A ρ G H σ D S h => ?_⟩
  refine k1 ρ G H σ _ S.gh S.slots ((PostS.run S h).imp fun π hp => ?_)
  cases q : atE i π ρ with
  | none => rw [q] at hp; exact hp.elim
  | some u =>
    rw [q] at hp
    cases u with
    | lst l =>
      simp only at hp
      refine ⟨⟨_, rfl⟩, fun v0 w G1 H1 g1 hv hw => ?_⟩
      have S1 := S.grow g1
      obtain ⟨t0, f0, _, _, oo⟩ := S1.place q hv hw
      have oo' := oo
      simp only [Own] at oo'
      obtain ⟨p, xs, f2, rfl, _, hh, _⟩ := oo'
      refine ⟨.inl ⟨rfl, xs, .of hh⟩, ?_⟩
      refine k2 ρ G1 H1 σ _ S1.gh S1.slots ((PostS.run S1 hp).imp fun t ht y G2 H2 fp g2 o2 c2 => ?_)
      obtain ⟨G3, s3, S3⟩ := (S1.take g2 o2 c2).freeze
      have rp : Rep X.K G3 t.d y := by
        obtain ⟨_, _, _, b, _⟩ := S3.own
        obtain ⟨f1, f2, _, o, _⟩ := OwnL.cons_iff.mp b
        simp only [Own] at o
        exact o.2
      cases q3 : t.d with
      | lst ds =>
        simp only [q3] at ht
        by_cases hl : l.length + ds.length ≤ sizeLine
        · rw [if_pos hl] at ht
          rw [q3] at rp
          simp only [Rep] at rp
          obtain ⟨b, ys, rfl, hb, rd⟩ := rp
          obtain ⟨p', xs', e', h', hx, S4⟩ := S3.drop.extend q rd hv (hw.mono g2.h)
          cases e'
          exact ⟨p, b, xs', ys, rfl, rfl, h', S3.gh _ _ hb, by rw [hx, RepL.length _ _ rd]; exact hl, ht σ G3 _ S4⟩
        · rw [if_neg hl] at ht; exact ht.elim
      | _ => simp only [q3] at ht; exact ht.elim
    | _ => exact hp.elim
/-! ### frozen at once -/
def frzV (fe : FE) : FE := fun ρ => bindE (fe ρ) fun t => some (.ok (.sh t.d))
theorem DE.frz (h : DE true X W e fe) : DE true X W e (frzV fe) := by
  obtain ⟨te, p, k⟩ := h
  refine ⟨te, p, fun ρ G H σ Q s sl h => k ρ G H σ Q s sl (h.bind.imp fun t ht v G' H' fp g o c => ?_)⟩
  refine ht v (frzAt G' H' fp) H' [] (g.frz (c.2 rfl).2) ?_ .nil
  simp only [Own]
  exact ⟨trivial, o.frozen g.gh⟩
end
end DV

namespace DV
open PySem PySem.Spec PyProof.Rows L2
section
variable {X : Cx} {W : WX} {fr fr' : Bool} {e o a b : Expr} {es : List Expr} {pos apos p2 : Pos} {fe fa fb : FE} {st : Stmt} {sts : List Stmt} {B : FS} {t : Expr} {tg : T → FS}
/-- code that is never reached -/
theorem ds_never : DS X W st (fun _ => none) := ⟨tNever, ps_never, fun A ρ G H σ D S h => h.elim⟩
theorem dss_never : DSs X W sts (fun _ => none) := ⟨tNever, pss_never, fun A ρ G H σ D S h => h.elim⟩

/-! ### f-strings -/
def fmtT (t : T) : Option Str := match t with
  | .sh (.str y) => if y.length ≤ sizeLine then some y else none
  | .sh (.int i) => if i.natAbs.log2 < 1920 then some (toString i) else none
  | _ => none
def fmtF (f : FE) : FE := fun ρ => bindE (f ρ) fun t => liftO ((fmtT t).map fun y => .sh (.str y))
theorem de_fmt (h : DE fr X W e fe) : DE true X W (.FormattedValue e (-1) none pos) (fmtF fe) := by
  obtain ⟨te, p, k⟩ := h
  refine ⟨_, pe_fmt p, fun ρ G H σ Q s sl h => k ρ G H σ _ s sl (h.bind.imp fun t ht v G1 H1 fp g1 o c => ?_)⟩
  obtain ⟨z, e, kk⟩ := ht.lift
  unfold fmtT at e
  split at e
  · rename_i y
    by_cases hy : y.length ≤ sizeLine
    · rw [if_pos hy] at e
      cases e
      simp only [Own, Rep] at o
      obtain ⟨_, rfl⟩ := o
      exact .inl ⟨y, rfl, hy, kk _ G1 H1 [] g1 (by simp [Own, Rep]) .nil⟩
    · rw [if_neg hy] at e; cases e
  · rename_i i
    by_cases hy : i.natAbs.log2 < 1920
    · rw [if_pos hy] at e
      cases e
      simp only [Own, Rep] at o
      obtain ⟨_, rfl⟩ := o
      exact .inr ⟨i, rfl, hy, kk _ G1 H1 [] g1 (by simp [Own, Rep]) .nil⟩
    · rw [if_neg hy] at e; cases e
  · cases e
inductive DJ (X : Cx) (W : WX) : List Expr → List FE → Prop where
  | nil : DJ X W [] []
  | cons {e : Expr} {f : FE} {es : List Expr} {fs : List FE} (h : DE true X W e f) (r : DJ X W es fs) : DJ X W (e :: es) (f :: fs)
theorem DJ.ex {X : Cx} {W : WX} : ∀ {es : List Expr} {fs : List FE}, DJ X W es fs → PJ X es (fs.map fun f => canE true X.K W f)
  | _, _, .nil => .nil
  | _, _, .cons h r => .cons h.can (DJ.ex r)
def strT : T → Option Str
  | .sh (.str y) => some y
  | _ => none
def joinF : List FE → Str → FE
  | [], acc, ρ => some (.ok (.sh (.str acc)))
  | f :: fs, acc, ρ => bindE (f ρ) fun t => match strT t with
    | some y => if (acc ++ y).length ≤ sizeLine then joinF fs (acc ++ y) ρ else none
    | none => none
theorem join_run {K : PySem.W.Frag} {W : WX} {ρ : Env} {σ : St} : ∀ {fs : List FE} {acc : Str} {G H : Hp} {Q : VK}, Same G H → Slots K G H σ ρ → Post K W G H σ (OkE K true G H Q) (joinF fs acc ρ) → tJs (fs.map fun f => canE true K W f) acc σ H fun out H1 => Q (.str out) H1
  | [], acc, G, H, Q, s, sl, h => h (.str acc) G H [] (Grow.refl s) (by simp [Own, Rep]) .nil
  | f :: fs, acc, G, H, Q, s, sl, h => by
    show canE true K W f σ H fun x H1 => ∃ y : Str, x = .str y ∧ (acc ++ y).length ≤ sizeLine ∧ tJs (fs.map fun f => canE true K W f) (acc ++ y) σ H1 fun out H1 => Q (.str out) H1
    refine ⟨ρ, G, s, sl, (Post.bind h).imp fun t ht v G1 H1 fp g1 o c => ?_⟩
    cases q : strT t with
    | none => rw [q] at ht; exact ht.elim
    | some y =>
      rw [q] at ht
      simp only at ht
      by_cases hy : (acc ++ y).length ≤ sizeLine
      · rw [if_pos hy] at ht
        unfold strT at q
        split at q
        · cases q
          simp only [Own, Rep] at o
          refine ⟨y, o.2, hy, join_run g1.gh (sl.grow g1) ((Post.grow ht g1).imp fun z hz => OkE.back g1 hz)⟩
        · cases q
      · rw [if_neg hy] at ht; exact ht.elim
theorem de_fstr {v1 v2 : Expr} {rest : List Expr} {fs : List FE} (h : DJ X W (v1 :: v2 :: rest) fs) : DE true X W (.JoinedStr (v1 :: v2 :: rest) pos) (joinF fs Str.empty) :=
  ⟨_, pe_joined h.ex, fun ρ G H σ Q s sl h => join_run s sl h⟩
theorem de_fstr1 {fe : FE} (h : DE true X W e fe) : DE true X W (.JoinedStr [e] pos) fe := by
  obtain ⟨te, p, k⟩ := h
  exact ⟨_, pe_joined1 p, k⟩

/-! ### methods of texts with one argument -/
def MtD (K : PySem.W.Frag) (r : V → List V → Hp → VK → Prop) (g : Str → T → Option T) : Prop := ∀ a t u v fp G H Q, g a t = some u → Same G H → Own K G H t v fp → OkE K true G H Q u → r (.str a) [v] H Q
def m1F (g : Str → T → Option T) (fo fe : FE) : FE := fun ρ => bindE (fo ρ) fun t => match strT t with
  | some a => bindE (fe ρ) fun u => liftO (g a u)
  | none => none
theorem eok_m1 {K : PySem.W.Frag} {r : V → List V → Hp → VK → Prop} {g : Str → T → Option T} {to te : TE} (hr : MtD K r g) (k1 : EOK fr K W to fa) (k2 : EOK fr' K W te fb) : EOK true K W (tM1 r to te) (m1F g fa fb) := by
  intro ρ G H σ Q s sl h
  refine k1 ρ G H σ _ s sl (h.bind.imp fun t ht v G1 H1 fp g1 o c => ?_)
  cases q : strT t with
  | none => rw [q] at ht; exact ht.elim
  | some y =>
    rw [q] at ht
    simp only at ht
    unfold strT at q
    split at q
    · cases q
      simp only [Own, Rep] at o
      obtain ⟨_, rfl⟩ := o
      refine ⟨⟨y, rfl⟩, k2 ρ G1 H1 σ _ g1.gh (sl.grow g1) ((ht.bind.grow g1).imp fun u hu w G2 H2 f2 g2 o2 c2 => ?_)⟩
      obtain ⟨z, e, kk⟩ := hu.lift
      exact hr y u z w f2 G2 H2 Q e g2.gh o2 (OkE.back (g1.trans g2) kk)
    · cases q
def splitT (a : Str) (t : T) : Option T := (strT t).bind fun b => if (b.length == 0) = false ∧ a.length + 2 ≤ sizeLine then some (lstS ((Txt.split a b).map D.str)) else none
theorem strs_rep {K : PySem.W.Frag} {G : Hp} : ∀ ys : List Str, RepL K G (ys.map D.str) (ys.map V.str)
  | [] => by simp [RepL]
  | y :: ys => by
    simp only [List.map_cons, RepL, Rep]
    exact ⟨_, _, rfl, rfl, strs_rep ys⟩
theorem mtd_split {K : PySem.W.Frag} : MtD K (fun x xs H Q => ∃ a b, x = .str a ∧ xs = [.str b] ∧ (b.length == 0) = false ∧ a.length + 2 ≤ sizeLine ∧ rNewStrs (Txt.split a b) H Q) splitT := by
  intro a t u v fp G H Q e s o k
  unfold splitT at e
  cases q : strT t with
  | none => rw [q] at e; cases e
  | some b =>
    rw [q] at e
    simp only [Option.bind_some] at e
    by_cases h : (b.length == 0) = false ∧ a.length + 2 ≤ sizeLine
    · rw [if_pos h] at e
      cases e
      unfold strT at q
      split at q
      · cases q
        simp only [Own, Rep] at o
        obtain ⟨_, rfl⟩ := o
        exact ⟨a, b, rfl, rfl, h.1, h.2, mk_lst s (strs_rep _) k⟩
      · cases q
    · rw [if_neg h] at e; cases e
theorem de_split (ho : DE fr X W o fa) (he : DE fr' X W e fb) (hs : starEach [e] X.env = [(false, eval e X.env)] := by rfl) (hbase : attributeBase o "split" X.env (eval o X.env) = eval o X.env := by rfl) (hline : (apos.endLine == pos.line) = true := by rfl) :
    DE true X W (.Call (.Attribute o "split" apos) [e] [] pos) (m1F splitT fa fb) := by
  obtain ⟨to, p1, k1⟩ := ho
  obtain ⟨te, p2, k2⟩ := he
  exact ⟨_, pe_split p1 p2 hs hbase hline, eok_m1 mtd_split k1 k2⟩
def strsD : List D → Option (List Str)
  | [] => some []
  | .str y :: r => (strsD r).map (y :: ·)
  | _ => none
theorem strsD_rep {K : PySem.W.Frag} {G : Hp} : ∀ {ds : List D} {ys : List Str} {xs : List V}, strsD ds = some ys → RepL K G ds xs → xs = ys.map V.str
  | [], ys, xs, e, r => by
    simp only [strsD, Option.some.injEq] at e; subst e
    simp only [RepL] at r; subst r; rfl
  | .str y :: ds, ys, xs, e, r => by
    simp only [strsD] at e
    cases q : strsD ds with
    | none => rw [q] at e; cases e
    | some zs =>
      rw [q] at e
      simp only [Option.map_some, Option.some.injEq] at e
      subst e
      simp only [RepL, Rep] at r
      obtain ⟨x, r', rfl, rfl, r⟩ := r
      rw [strsD_rep q r]; rfl
  | .non :: _, _, _, e, _ => by simp [strsD] at e
  | .bl _ :: _, _, _, e, _ => by simp [strsD] at e
  | .int _ :: _, _, _, e, _ => by simp [strsD] at e
  | .ref _ :: _, _, _, e, _ => by simp [strsD] at e
  | .lst _ :: _, _, _, e, _ => by simp [strsD] at e
  | .frl _ :: _, _, _, e, _ => by simp [strsD] at e
  | .tup _ :: _, _, _, e, _ => by simp [strsD] at e
  | .dct _ _ :: _, _, _, e, _ => by simp [strsD] at e
  | .dtt _ _ :: _, _, _, e, _ => by simp [strsD] at e
  | .ins _ _ _ :: _, _, _, e, _ => by simp [strsD] at e
def joinT (a : Str) (t : T) : Option T := ((seqD t.d).bind strsD).bind fun ys => if (ys.map (·.length)).sum + ys.length * a.length ≤ 16777216 then some (.sh (.str (Txt.join a ys))) else none
theorem seqD_rep {K : PySem.W.Frag} {G H : Hp} {d : D} {v : V} {ds : List D} (s : Same G H) (e : seqD d = some ds) (r : Rep K G d v) : ∃ a xs, v = .ref a ∧ (SqL K H a xs ∨ SqT K H a xs) ∧ RepL K G ds xs := by
  unfold seqD at e
  cases q : listD d with
  | some l =>
    rw [q] at e
    cases e
    obtain ⟨a, xs, h1, h2, h3⟩ := listD_rep q r
    exact ⟨a, xs, h1, .inl (s.seq h2), h3⟩
  | none =>
    rw [q] at e
    obtain ⟨a, xs, h1, h2, h3⟩ := tupD_rep e r
    exact ⟨a, xs, h1, .inr (Same.sqt s h2), h3⟩
theorem mtd_join {K : PySem.W.Frag} : MtD K (fun x xs H Q => ∃ a p, ∃ ys : List Str, x = .str a ∧ xs = [.ref p] ∧ (SqL K H p (ys.map V.str) ∨ SqT K H p (ys.map V.str)) ∧
      (ys.map (·.length)).sum + ys.length * a.length ≤ 16777216 ∧ Q (.str (Txt.join a ys)) H) joinT := by
  intro a t u v fp G H Q e s o k
  unfold joinT at e
  cases q : seqD t.d with
  | none => rw [q] at e; cases e
  | some ds =>
    rw [q] at e
    simp only [Option.bind_some] at e
    cases q2 : strsD ds with
    | none => rw [q2] at e; cases e
    | some ys =>
      rw [q2] at e
      simp only [Option.bind_some] at e
      by_cases h : (ys.map (·.length)).sum + ys.length * a.length ≤ 16777216
      · rw [if_pos h] at e
        cases e
        obtain ⟨p, xs, rfl, hq, hr⟩ := seqD_rep (frzAt_le s) q (o.frozen s)
        have := strsD_rep q2 hr
        subst this
        exact ⟨a, p, ys, rfl, rfl, hq, h, k _ G H [] (Grow.refl s) (by simp [Own, Rep]) .nil⟩
      · rw [if_neg h] at e; cases e
theorem de_join (ho : DE fr X W o fa) (he : DE fr' X W e fb) (hs : starEach [e] X.env = [(false, eval e X.env)] := by rfl) (hbase : attributeBase o "join" X.env (eval o X.env) = eval o X.env := by rfl) (hline : (apos.endLine == pos.line) = true := by rfl) :
    DE true X W (.Call (.Attribute o "join" apos) [e] [] pos) (m1F joinT fa fb) := by
  obtain ⟨to, p1, k1⟩ := ho
  obtain ⟨te, p2, k2⟩ := he
  exact ⟨_, pe_join p1 p2 hs hbase hline, eok_m1 mtd_join k1 k2⟩

/-! ### slices -/
abbrev FO := Env → Option (EO (Option Int))
def OOK (K : PySem.W.Frag) (W : WX) (tt : TO) (f : FO) : Prop := ∀ ρ G H σ Q, Same G H → Slots K G H σ ρ → Post K W G H σ (fun o => ∀ G' H', Grow G H G' H' → Q o H') (f ρ) → tt σ H Q
def DO (X : Cx) (W : WX) (e : Option Expr) (f : FO) : Prop := ∃ tt, PO X e tt ∧ OOK X.K W tt f
theorem do_none : DO X W none (fun _ => some (.ok none)) := ⟨_, po_none, fun ρ G H σ Q s sl h => h G H (Grow.refl s)⟩
def partF (f : FE) : FO := fun ρ => bindE (f ρ) fun t => liftO ((intT t).map some)
theorem do_some (h : DE fr X W e fe) : DO X W (some e) (partF fe) := by
  obtain ⟨te, p, k⟩ := h
  refine ⟨_, po_some p, fun ρ G H σ Q s sl h => k ρ G H σ _ s sl (h.bind.imp fun t ht v G1 H1 fp g1 o c => ?_)⟩
  obtain ⟨z, e, kk⟩ := ht.lift
  cases q : intT t with
  | none => rw [q] at e; cases e
  | some i =>
    rw [q] at e
    cases e
    exact ⟨i, intT_own q o, kk G1 H1 g1⟩
def cutD {α : Type} (xs : List α) (lo hi : Option Int) : List α := (xs.drop (HT.sIx xs.length 0 lo)).take (HT.sIx xs.length xs.length hi - HT.sIx xs.length 0 lo)
theorem RepL.drop {K : PySem.W.Frag} {G : Hp} : ∀ {ds : List D} {xs : List V} (n : Nat), RepL K G ds xs → RepL K G (ds.drop n) (xs.drop n)
  | _, _, 0, r => r
  | [], xs, n + 1, r => by simp only [RepL] at r; subst r; simp [RepL]
  | d :: ds, xs, n + 1, r => by
    simp only [RepL] at r
    obtain ⟨x, r', rfl, _, h⟩ := r
    exact RepL.drop n h
theorem RepL.take {K : PySem.W.Frag} {G : Hp} : ∀ {ds : List D} {xs : List V} (n : Nat), RepL K G ds xs → RepL K G (ds.take n) (xs.take n)
  | _, _, 0, r => by simp [RepL]
  | [], xs, n + 1, r => by simp only [RepL] at r; subst r; simp [RepL]
  | d :: ds, xs, n + 1, r => by
    simp only [RepL] at r
    obtain ⟨x, r', rfl, h1, h⟩ := r
    simp only [List.take_succ_cons, RepL]
    exact ⟨x, _, rfl, h1, RepL.take n h⟩
theorem RepL.cut {K : PySem.W.Frag} {G : Hp} {ds : List D} {xs : List V} (r : RepL K G ds xs) (lo hi : Option Int) : RepL K G (cutD ds lo hi) (cutV xs lo hi) := by
  unfold cutD cutV
  rw [RepL.length _ _ r]
  exact RepL.take _ (RepL.drop _ r)
def SlD (K : PySem.W.Frag) (r : V → Option Int → Option Int → Hp → VK → Prop) (g : T → Option Int → Option Int → Option T) : Prop := ∀ t lo hi u v fp G H Q, g t lo hi = some u → Same G H → Own K G H t v fp → OkE K true G H Q u → r v lo hi H Q
def slF (g : T → Option Int → Option Int → Option T) (fa : FE) (fl fh : FO) : FE := fun ρ => bindE (fa ρ) fun t => bindE (fl ρ) fun lo => bindE (fh ρ) fun hi => liftO (g t lo hi)
theorem de_slice {lo hi : Option Expr} {fl fh : FO} {r : V → Option Int → Option Int → Hp → VK → Prop} {g : T → Option Int → Option Int → Option T} (hr : SlR X r) (hd : SlD X.K r g) (he : DE fr X W e fe) (hl : DO X W lo fl) (hu : DO X W hi fh) : DE true X W (.Subscript e (.Slice lo hi none p2) pos) (slF g fe fl fh) := by
  obtain ⟨te, p, k⟩ := he
  obtain ⟨tl, p', k'⟩ := hl
  obtain ⟨th, p'', k''⟩ := hu
  refine ⟨_, pe_slice hr p p' p'', fun ρ G H σ Q s sl h => k ρ G H σ _ s sl (h.bind.imp fun t ht v G1 H1 fp g1 o c => ?_)⟩
  refine k' ρ G1 H1 σ _ g1.gh (sl.grow g1) ((ht.bind.grow g1).imp fun lo hlo G2 H2 g2 => ?_)
  refine k'' ρ G2 H2 σ _ g2.gh ((sl.grow g1).grow g2) ((hlo.bind.grow (g1.trans g2)).imp fun hi hhi G3 H3 g3 => ?_)
  obtain ⟨z, e, kk⟩ := hhi.lift
  exact hd t lo hi z v fp G3 H3 Q e g3.gh ((o.grow g2).grow g3) (OkE.back ((g1.trans g2).trans g3) kk)
def cutTL (t : T) (lo hi : Option Int) : Option T := (viewS t).map fun l => lstS (cutD l lo hi)
theorem sld_list {K : PySem.W.Frag} : SlD K (rSlL K) cutTL := by
  intro t lo hi u v fp G H Q e s o k
  unfold cutTL at e
  cases q : viewS t with
  | none => rw [q] at e; cases e
  | some l =>
    rw [q] at e
    cases e
    obtain ⟨p, xs, rfl, h, r⟩ := viewS_own s q o
    exact ⟨p, xs, rfl, h, mk_lst s (r.cut lo hi) k⟩
def cutTT (t : T) (lo hi : Option Int) : Option T := (shTup t).map fun l => .sh (.tup (cutD l lo hi))
theorem cut_whole {α : Type} {xs : List α} {lo hi : Option Int} (h : HT.sIx xs.length 0 lo = 0 ∧ HT.sIx xs.length xs.length hi = xs.length) : cutD xs lo hi = xs := by
  unfold cutD
  rw [h.1, h.2]
  simp
theorem sld_tup {K : PySem.W.Frag} : SlD K (rSlA K) cutTT := by
  intro t lo hi u v fp G H Q e s o k
  unfold cutTT at e
  cases q : shTup t with
  | none => rw [q] at e; cases e
  | some l =>
    rw [q] at e
    cases e
    obtain ⟨z, p, xs, rfl, h, r⟩ := shTup_own s q o
    refine ⟨p, xs, rfl, h, fun hw => ?_, fun _ => mk_tupF s (r.cut lo hi) k⟩
    rw [RepL.length _ _ r] at hw
    simp only [cut_whole hw] at k
    exact shOk s z k
def cutTS (t : T) (lo hi : Option Int) : Option T := (strT t).bind fun z => if z.length ≤ sizeLine then some (.sh (.str (cutS z lo hi))) else none
theorem sld_str {K : PySem.W.Frag} : SlD K rSlS cutTS := by
  intro t lo hi u v fp G H Q e s o k
  unfold cutTS at e
  cases q : strT t with
  | none => rw [q] at e; cases e
  | some z =>
    rw [q] at e
    simp only [Option.bind_some] at e
    by_cases h : z.length ≤ sizeLine
    · rw [if_pos h] at e
      cases e
      unfold strT at q
      split at q
      · cases q
        simp only [Own, Rep] at o
        exact ⟨z, o.2, h, k _ G H [] (Grow.refl s) (by simp [Own, Rep]) .nil⟩
      · cases q
    · rw [if_neg h] at e; cases e

/-! ### isinstance of a built-in class -/
def tyD : D → Option String
  | .non => some "NoneType" | .bl _ => some "bool" | .int _ => some "int" | .str _ => some "str"
  | .lst _ => some "list" | .frl _ => some "list" | .tup _ => some "tuple" | .dct _ _ => some "dict"
  | _ => none
theorem tyD_rep {K : PySem.W.Frag} {G H : Hp} {d : D} {v : V} {n : String} (s : Same G H) (e : tyD d = some n) (r : Rep K G d v) : TyX K H v (.type n) := by
  cases d with
  | non => cases e; simp only [Rep] at r; subst r; exact .base .non
  | bl x => cases e; simp only [Rep] at r; subst r; exact .base (.bl x)
  | int x => cases e; simp only [Rep] at r; subst r; exact .base (.int x)
  | str x => cases e; simp only [Rep] at r; subst r; exact .base (.str x)
  | lst l =>
    cases e; simp only [Rep] at r
    obtain ⟨a, xs, rfl, h, _⟩ := r
    exact .base (.lst (s _ _ h))
  | frl l =>
    cases e; simp only [Rep] at r
    obtain ⟨a, xs, rfl, h, _⟩ := r
    rcases h with (h | ⟨o, h⟩) | ⟨o, its, n, h, c, _⟩
    · exact .base (.lst (s _ _ h))
    · exact .base (.frz (s _ _ h))
    · exact .kList h c
  | tup l =>
    cases e; simp only [Rep] at r
    obtain ⟨a, xs, rfl, h, _⟩ := r
    rcases h with (h | ⟨o, h⟩) | ⟨o, its, n, h, c, _⟩
    · exact .base (.tup (s _ _ h))
    · exact .fTuple (s _ _ h)
    · exact .kTuple h c
  | dct ks l =>
    cases e; simp only [Rep] at r
    obtain ⟨a, xs, rfl, h, _⟩ := r
    rcases h with h | ⟨o, h⟩
    · exact .base (.dK (s _ _ h))
    · exact .fDict (s _ _ h)
  | _ => cases e
def isB (m n : String) : Bool := m == n || (m == "bool" && n == "int")
theorem kit_tab : ∀ m ∈ ["NoneType", "bool", "int", "str", "list", "tuple", "dict"], ∀ n ∈ ["bool", "int", "str", "list", "tuple", "dict"], kitB m n = some (isB m n) := by decide +kernel
theorem tyD_in {d : D} {m : String} (e : tyD d = some m) : m ∈ ["NoneType", "bool", "int", "str", "list", "tuple", "dict"] := by
  cases d <;> simp [tyD] at e <;> subst e <;> simp
def isiF (n : String) (fe : FE) : FE := fun ρ => bindE (fe ρ) fun t => liftO ((tyD t.d).map fun m => .sh (.bl (isB m n)))
theorem de_isi {n : String} {nm : Str} {p1 p2 : Pos} (hn : n ∈ ["bool", "int", "str", "list", "tuple", "dict"]) (he : DE fr X W e fe) (hg : Gl X "isinstance") (hm : X.mg "isinstance" = none) (hb : bootBuiltins "isinstance" = some (.builtin "isinstance"))
    (hg2 : Gl X nm) (hm2 : X.mg nm = none) (hb2 : bootBuiltins nm = some (.type n)) (hnn : nm ≠ "__name__" := by decide) (hdb : (nm == ("__debug__" : Str)) = false := by decide)
    (hs1 : starEach [e, .Name nm p2] X.env = (false, eval e X.env) :: starEach [.Name nm p2] X.env := by rfl) (hs2 : starEach [.Name nm p2] X.env = (false, eval (.Name nm p2) X.env) :: starEach [] X.env := by rfl)
    (hpl : (backTo pos (starEach [.Name nm p2] X.env)).any (·.1) = false := by rfl) :
    DE true X W (.Call (.Name "isinstance" p1) [e, .Name nm p2] [] pos) (isiF n fe) := by
  obtain ⟨te, p, k⟩ := he
  refine ⟨_, pe_callB call_isi hg hm hb (pa_cons p (pa_cons (pe_bltn (v := .ty n) hg2 hm2 hb2 rfl hnn hdb) pa_nil hs2) hs1) (by decide) (by decide) hs1 hpl, fun ρ G H σ Q s sl h => k ρ G H σ _ s sl (h.bind.imp fun t ht v G1 H1 fp g1 o c => ?_)⟩
  obtain ⟨z, e, kk⟩ := ht.lift
  cases q : tyD t.d with
  | none => rw [q] at e; cases e
  | some m =>
    rw [q] at e
    cases e
    refine ⟨v, .ty n, .type m, .type n, isB m n, rfl, .ty n, tyD_rep (frzAt_le g1.gh) q (o.frozen g1.gh), kit_ty (kit_tab m (tyD_in q) n hn), kk _ G1 H1 [] g1 (by simp [Own, Rep]) .nil⟩
/-! ### a text, sign by sign -/
def forS (tg : T → FS) (B : FS) (f : FE) : FS := fun ρ => runE (f ρ) ρ fun t => match strT t with
  | some x => forF tg B (x.cps.toList.map fun c => T.sh (.str ⟨#[c]⟩)) ρ
  | none => none
theorem ds_forS (C : Ctx X W) (h : DE fr X W e fe) (hg : DG X t tg) (hb : DSs X W sts B) (hs : ∀ x, foldedSetIterable e X.env x = pure x := by intro _; rfl) : DS X W (.For t e sts [] pos) (forS tg B fe) := by
  obtain ⟨te, p, k⟩ := h
  obtain ⟨g, p2, k2⟩ := hg
  obtain ⟨tb, p3, k3⟩ := hb
  refine ⟨_, ps_for C.po C.calm (pi_str p) p2 p3 hs, fun A ρ G H σ D S h => ?_⟩
  refine k ρ G H σ _ S.gh S.slots ((PostS.run S h).imp fun t ht v G1 H1 fp g1 o c => ?_)
  cases q : strT t with
  | none => rw [q] at ht; exact ht.elim
  | some x =>
    rw [q] at ht
    simp only at ht
    have ev : v = .str x := by
      unfold strT at q
      split at q
      · cases q
        simp only [Own, Rep] at o
        exact o.2
      · cases q
    have el : (x.cps.toList.map fun c => T.sh (.str ⟨#[c]⟩)).length = x.cps.size := by simp
    refine ⟨x, ev, fun i m σ H => m = x.cps.size - i ∧ i ≤ x.cps.size ∧ ∃ ρi G', Stt X.K A G' H σ ρi ∧ PostS X.K W A D (forF tg B ((x.cps.toList.map fun c => T.sh (.str ⟨#[c]⟩)).drop i) ρi), ⟨x.cps.size, by simp, Nat.zero_le _, ρ, G1, S.grow g1, ht⟩, ?_⟩
    rintro i m σ H ⟨rfl, hi, ρi, G', S', hp⟩
    by_cases hlt : i < x.cps.size
    · refine .inr ⟨hlt, fun σ H => ∃ ρi G', Stt X.K A G' H σ ρi ∧ PostS X.K W A D (forF tg B ((x.cps.toList.map fun c => T.sh (.str ⟨#[c]⟩)).drop (i + 1)) ρi), fun σ' H' p' => ⟨x.cps.size - (i + 1), by omega, rfl, hlt, p'⟩, ?_⟩
      rintro y H' ⟨rfl, ch, hch, rfl⟩
      have ed : (x.cps.toList.map fun c => T.sh (.str ⟨#[c]⟩)).drop i = T.sh (.str ⟨#[ch]⟩) :: (x.cps.toList.map fun c => T.sh (.str ⟨#[c]⟩)).drop (i + 1) := by
        rw [List.drop_eq_getElem_cons (by rw [el]; exact hlt)]
        congr 1
        have : x.cps.toList[i]? = some ch := by simpa using hch
        obtain ⟨hh, ee⟩ := List.getElem?_eq_some_iff.mp this
        simp only [List.getElem_map]
        rw [ee]
      rw [ed] at hp
      obtain ⟨ρ1, e1, kk⟩ := hp.turn
      refine k2 _ ρi G' _ σ _ _ [] [] _ (S'.take (Grow.refl S'.gh) (by simp [Own, Rep]) .nil) ⟨ρ1, e1, fun σ3 G3 H3 s3 S3 => ?_⟩
      exact k3 _ ρ1 G3 H3 σ3 _ S3 (kk _ fun ρ2 hp2 σ4 G4 H4 S4 => ⟨ρ2, G4, S4, hp2⟩)
    · have e : i = x.cps.size := by omega
      subst e
      rw [← el, List.drop_length] at hp
      exact .inl ⟨Nat.le_refl _, hp σ G' H S'⟩
/-! ### targets of comprehensions -/
theorem dgc_name {vs : List Nat} (i : Nat) {x : Str} (hN : X.N.Nodup) (hin : i ∈ vs := by decide) (hi : X.N[i]? = some x := by rfl) (hx : Loc X.env.scope x := by first | exact Or.inl rfl | exact Or.inr rfl)
    (hf : X.fn x = true ∨ X.env.scope.names.lookup x = some .local := by first | exact .inl rfl | exact .inr rfl | assumption) : DGc vs X (.Name x pos) (tgName i) := by
  refine DGc.mk (pg_name (i := i) hN hi hx hf) fun ρ G H σ d v Q s sl r h => ?_
  obtain ⟨ρ', e, k⟩ := h
  cases e
  exact k _ (sl.set r) (wipe_set hin)
/-- several, from the left -/
def GsOKc (vs : List Nat) (K : PySem.W.Frag) (g : TGs) (tgs : List (T → FS)) : Prop := ∀ ρ G H σ ds xs (Q : St → Hp → Prop), Same G H → Slots K G H σ ρ → RepL K G ds xs → (∃ ρ', tgsF tgs (ds.map T.sh) ρ = some (.nx ρ') ∧ ∀ σ', Slots K G H σ' ρ' → wipe σ' vs = wipe σ vs → Q σ' H) → g xs σ H Q
def canGs (vs : List Nat) (K : PySem.W.Frag) (tgs : List (T → FS)) : TGs := fun xs σ H Q => ∃ ρ G ds, Same G H ∧ Slots K G H σ ρ ∧ RepL K G ds xs ∧ (∃ ρ', tgsF tgs (ds.map T.sh) ρ = some (.nx ρ') ∧ ∀ σ', Slots K G H σ' ρ' → wipe σ' vs = wipe σ vs → Q σ' H)
def DGcs (vs : List Nat) (X : Cx) (es : List Expr) (tgs : List (T → FS)) : Prop := PGs X es (canGs vs X.K tgs)
theorem dgcs_nil {vs : List Nat} : DGcs vs X [] [] := by
  refine ⟨fun pins s σ H xs us Q I r h => ?_⟩
  obtain ⟨ρ, G, ds, s1, s2, r1, ρ', e, k⟩ := h
  refine pgs_nil.run pins s σ H xs us Q I r ?_
  cases ds with
  | nil =>
    simp only [List.map_nil, tgsF, Option.some.injEq, Out.nx.injEq] at e
    subst e
    simp only [RepL] at r1
    exact ⟨r1, k σ s2 rfl⟩
  | cons d ds => simp [tgsF] at e
theorem dgcs_cons {vs : List Nat} {tgs : List (T → FS)} (h1 : DGc vs X e tg) (h2 : DGcs vs X es tgs) (hs : (assignEach (e :: es) X.env).map (·.2) = assign e X.env :: (assignEach es X.env).map (·.2) := by rfl) : DGcs vs X (e :: es) (tg :: tgs) := by
  refine ⟨fun pins s σ H xs us Q I r h => ?_⟩
  obtain ⟨ρ, G, ds, s1, s2, r1, ρ', e, k⟩ := h
  refine (pgs_cons h1 h2 hs).run pins s σ H xs us Q I r ?_
  cases ds with
  | nil => simp [tgsF] at e
  | cons d ds =>
    simp only [List.map_cons, tgsF] at e
    simp only [RepL] at r1
    obtain ⟨x, r', rfl, ra, rb⟩ := r1
    cases q : tg (.sh d) ρ with
    | none => rw [q] at e; cases e
    | some o =>
      rw [q] at e
      cases o with
      | nx ρ1 => exact ⟨x, r', rfl, ρ, G, d, s1, s2, ra, ρ1, q, fun σ1 sl1 hw1 => ⟨ρ1, G, ds, s1, sl1, rb, ρ', e, fun σ2 sl2 hw2 => k σ2 sl2 (hw2.trans hw1)⟩⟩
      | _ => cases e
theorem dgc_tup {vs : List Nat} {tgs : List (T → FS)} {k n : Nat} (hc : X.calm = true) (h : DGcs vs X es tgs) (hn : (assignEach es X.env).length = n := by rfl) (hst : (assignEach es X.env).findIdx? (·.1) = none := by rfl) : DGc vs X (.Tuple es k pos) (tgTup n tgs) := by
  refine DGc.mk (pg_tup hc h hn hst) fun ρ G H σ d v Q s sl r hh => ?_
  obtain ⟨ρ', e, kk⟩ := hh
  unfold tgTup at e
  cases d with
  | tup ds =>
    simp only [tupItems] at e
    by_cases hl : (ds.map T.sh).length = n
    · rw [if_pos hl] at e
      simp only [Rep] at r
      obtain ⟨a, xs, rfl, hq, hr⟩ := r
      exact ⟨a, xs, rfl, Same.sqt s hq, by rw [RepL.length _ _ hr, ← hl, List.length_map], ρ, G, ds, s, sl, hr, ρ', e, kk⟩
    · rw [if_neg hl] at e; cases e
  | _ => simp [tupItems] at e
end
end DV

namespace DV
open PySem PySem.Spec PyProof.Rows L2

/-! ## short names for printed texts -/
def vr (i : Nat) : FE := fun ρ => bindE (rdVar i ρ) shOnly
def shE (f : FE) : FE := fun ρ => bindE (f ρ) shOnly
def frzF (i : Nat) (F : FS) : FS := fun ρ => F (frzSlot i ρ)
def breakF : FS := fun ρ => some (.bk ρ)
def contF : FS := fun ρ => some (.ct ρ)
def neverF : FS := fun _ => none
section
variable {X : Cx} {W : WX} {fr fr' : Bool} {e o a b : Expr} {es : List Expr} {pos apos p2 : Pos} {fe fa fb : FE} {st : Stmt} {sts : List Stmt} {F : FS}
theorem DE.sh' (h : DE false X W e fa) : DE true X W e (shE fa) := h.sh
theorem de_var' (i : Nat) {x : Str} (hN : X.N[i]? = some x := by rfl) (hv : Vis X.env.scope x := by first | exact Or.inl rfl | exact Or.inr (Or.inl rfl) | exact Or.inr (Or.inr rfl)) (hd : (x == ("__debug__" : Str)) = false := by decide)
    (hcd : (x == ("__classdict__" : Str)) = false := by decide) : DE true X W (.Name x pos) (vr i) := de_var i hN hv hd hcd
theorem de_globE {x : Str} {v : V} {d : D} (hg : Gl X x) (h : ∃ u, X.mg x = some u ∧ RelV v u) (hd : scV v = some d) (hb : (x == ("__debug__" : Str)) = false := by decide) : DE true X W (.Name x pos) (cst d) := by
  obtain ⟨u, h1, h2⟩ := h
  exact de_glob hg h1 h2 hd hb
theorem ds_frz' (i : Nat) (h : DS X W st F) : DS X W st (frzF i F) := ds_frz i h

/-! ### op= -/
def IpD (K : PySem.W.Frag) (t : TIp) (g : T → T → Option T) : Prop := ∀ t1 t2 u v1 v2 f1 f2 G H Q, g t1 t2 = some u → Same G H → Own K G H t1 v1 f1 → Own K G H t2 v2 f2 → OkE K true G H Q u → t v1 v2 H Q
def augF (i : Nat) (g : T → T → Option T) (fe : FE) : FS := fun ρ => runE (rdVar i ρ) ρ fun t => runE (fe ρ) ρ fun u => match g t u with | some z => some (.nx (ρ.set i (some z))) | none => none
structure AugR (X : Cx) (op : Operator) (g : T → T → Option T) : Prop where
  ex : ∃ t, PIp X op t ∧ IpD X.K t g
theorem ds_aug (i : Nat) {x : Str} {op : Operator} {g : T → T → Option T} {pos' : Pos} (hN : X.N.Nodup) (R : AugR X op g) (h : DE fr X W e fe) (hi : X.N[i]? = some x := by rfl) (hx : Loc X.env.scope x := by first | exact Or.inl rfl | exact Or.inr rfl)
    (hf : X.fn x = true ∨ X.env.scope.names.lookup x = some .local := by first | exact .inl rfl | exact .inr rfl | assumption) : DS X W (.AugAssign (.Name x pos') op e pos) (augF i g fe) := by
  obtain ⟨te, p, k⟩ := h
  obtain ⟨ti, p1, k1⟩ := R.ex
  refine ⟨_, ps_aug (i := i) hN hi hx p p1 hf, fun A ρ G H σ D S h => ?_⟩
  unfold augF rdVar at h
  cases q : ρ[i]? with
  | none => rw [q] at h; exact h.elim
  | some o =>
    rw [q] at h
    cases o with
    | none => exact h.elim
    | some t =>
      obtain ⟨v, f, ev, ow, _⟩ := S.slots.2 i t q
      have h2 : PostS X.K W A D (runE (fe ρ) ρ fun u => match g t u with | some z => some (.nx (ρ.set i (some z))) | none => none) := h
      refine ⟨v, ev, k ρ G H σ _ S.gh S.slots ((PostS.run S h2).imp fun u hu w G1 H1 f1 g1 o1 c1 => ?_)⟩
      cases q2 : g t u with
      | none => rw [q2] at hu; exact hu.elim
      | some z =>
        rw [q2] at hu
        have S1 := S.grow g1
        refine k1 t u z v w f f1 G1 H1 _ q2 g1.gh (ow.grow g1) o1 fun y G2 H2 f2 g2 o2 c2 => hu _ G2 H2 ((S1.take g2 o2 c2).store i)
theorem aug_add : AugR X .Add (vop addV) := ⟨⟨fun x y H Q => ipI (fun i j => i + j) x y H Q ∨ ∃ i j, x = .str i ∧ y = .str j ∧ i.length + j.length ≤ sizeLine ∧ Q (.str (i ++ j)) H, fun pins s σ H x y v u Q I r1 r2 h => by
    rcases h with h | h
    · exact ip_add pins s σ H x y v u Q I r1 r2 h
    · exact iop_add_str pins s σ H x y v u Q I r1 r2 h, fun t1 t2 u v1 v2 f1 f2 G H Q e s o1 o2 k => opv_add.d t1 t2 u v1 v2 f1 f2 G H Q e s o1 o2 k⟩⟩
theorem aug_sub : AugR X .Sub (vop subD) := ⟨⟨_, ip_sub, fun t1 t2 u v1 v2 f1 f2 G H Q e s o1 o2 k => opv_sub.d t1 t2 u v1 v2 f1 f2 G H Q e s o1 o2 k⟩⟩

/-! ### values that are moved -/
inductive EM where
  | ok (t : T) (ρ : Env)
  | exc (x : Exn) (ρ : Env)
abbrev FM := Env → Option EM
def PostM (K : PySem.W.Frag) (W : WX) (A : Act) (H0 : Hp) (σ : St) (us : List T) (ws : List V) (Q : VK) : Option EM → Prop
  | none => False
  | some (.ok t ρ) => ∀ v G H, Same H0 H → SttV K A G H σ ρ (t :: us) (v :: ws) → Q v H
  | some (.exc x ρ) => ∀ d G H, Stt K A G H σ ρ → ExcAt K G H x d → W x.cls d σ H
theorem SttV.clear {K : PySem.W.Frag} {A : Act} {G H : Hp} {σ : St} {ρ : Env} {us : List T} {ws : List V} (S : SttV K A G H σ ρ us ws) : Stt K A G H σ ρ := by
  obtain ⟨fp, f, a, b, cc, d⟩ := S.own
  exact ⟨S.gh, S.gg, S.hh, S.n, fp, [], a, by simp [OwnL], by rw [List.append_nil]; exact (List.nodup_append.mp cc).1, fun p hp => d p (by simp at hp; simp [hp])⟩
def MOK (K : PySem.W.Frag) (W : WX) (te : TE) (f : FM) : Prop := ∀ A ρ G H σ us ws Q, SttV K A G H σ ρ us ws → PostM K W A H σ us ws Q (f ρ) → te σ H Q
def DM (X : Cx) (W : WX) (e : Expr) (f : FM) : Prop := ∃ te, PE X e te ∧ MOK X.K W te f
def ofE (f : FE) : FM := fun ρ => match f ρ with
  | none => none
  | some (.ok t) => some (.ok t ρ)
  | some (.exc x) => some (.exc x ρ)
theorem dm_of (h : DE true X W e fe) : DM X W e (ofE fe) := by
  obtain ⟨te, p, k⟩ := h
  refine ⟨te, p, fun A ρ G H σ us ws Q S h => k ρ G H σ Q S.gh S.slots ?_⟩
  unfold ofE at h
  cases q : fe ρ with
  | none => rw [q] at h; exact h
  | some o =>
    rw [q] at h
    cases o with
    | ok t => exact fun v G' H' fp g o c => h v G' H' g.h (S.take g o c)
    | exc x => exact fun d G' H' g ex => h d G' H' (S.grow g).clear ex
def mvE (i : Nat) : FM := fun ρ => match ρ[i]? with | some (some t) => some (.ok t (ρ.set i none)) | _ => none
theorem dm_var (i : Nat) {x : Str} (hN : X.N[i]? = some x := by rfl) (hv : Vis X.env.scope x := by first | exact Or.inl rfl | exact Or.inr (Or.inl rfl) | exact Or.inr (Or.inr rfl)) (hd : (x == ("__debug__" : Str)) = false := by decide)
    (hcd : (x == ("__classdict__" : Str)) = false := by decide) : DM X W (.Name x pos) (mvE i) := by
  refine ⟨_, pv i hN hv hd hcd, fun A ρ G H σ us ws Q S h => ?_⟩
  unfold mvE at h
  cases q : ρ[i]? with
  | none => rw [q] at h; exact h.elim
  | some o =>
    rw [q] at h
    cases o with
    | none => exact h.elim
    | some t =>
      obtain ⟨v, e, S'⟩ := S.move q
      exact ⟨v, e, h v G H (Same.refl H) S'⟩
inductive EMs where
  | ok (ts : List T) (ρ : Env)
  | exc (x : Exn) (ρ : Env)
abbrev FMs := Env → Option EMs
def PostMs (K : PySem.W.Frag) (W : WX) (A : Act) (H0 : Hp) (σ : St) (us : List T) (ws : List V) (Q : List V → Hp → Prop) : Option EMs → Prop
  | none => False
  | some (.ok ts ρ) => ∀ vs G H, Same H0 H → vs.length = ts.length → SttV K A G H σ ρ (ts ++ us) (vs ++ ws) → Q vs H
  | some (.exc x ρ) => ∀ d G H, Stt K A G H σ ρ → ExcAt K G H x d → W x.cls d σ H
def MsOK (K : PySem.W.Frag) (W : WX) (ta : TA) (f : FMs) : Prop := ∀ A ρ G H σ us ws Q, SttV K A G H σ ρ us ws → PostMs K W A H σ us ws Q (f ρ) → ta σ H Q
def DMs (X : Cx) (W : WX) (es : List Expr) (f : FMs) : Prop := ∃ ta, PA X es ta ∧ MsOK X.K W ta f
def nilM : FMs := fun ρ => some (.ok [] ρ)
def consM (f : FM) (g : FMs) : FMs := fun ρ => match f ρ with
  | some (.ok t ρ1) => (match g ρ1 with
    | some (.ok ts ρ2) => some (.ok (t :: ts) ρ2)
    | some (.exc x ρ2) => some (.exc x ρ2)
    | none => none)
  | some (.exc x ρ1) => some (.exc x ρ1)
  | none => none
theorem dms_nil : DMs X W [] nilM := ⟨_, pa_nil, fun A ρ G H σ us ws Q S h => h [] G H (Same.refl H) rfl S⟩
/-- the value ahead of the others, then behind them -/
theorem SttV.swap {K : PySem.W.Frag} {A : Act} {G H : Hp} {σ : St} {ρ : Env} {t : T} {v : V} {ts us : List T} {vs ws : List V} (S : SttV K A G H σ ρ (ts ++ t :: us) (vs ++ v :: ws)) (hl : vs.length = ts.length) : SttV K A G H σ ρ (t :: ts ++ us) (v :: vs ++ ws) := by
  obtain ⟨fp, f, a, b, cc, d⟩ := S.own
  have go : ∀ {ts : List T} {vs : List V} {f : List Addr}, vs.length = ts.length → OwnL K G H (ts ++ t :: us) (vs ++ v :: ws) f → ∃ f2, OwnL K G H (t :: ts ++ us) (v :: vs ++ ws) f2 ∧ List.Perm f f2 := by
    intro ts
    induction ts with
    | nil =>
      intro vs f hl b
      cases vs with
      | nil => exact ⟨f, b, List.Perm.refl _⟩
      | cons _ _ => simp at hl
    | cons t0 ts ih =>
      intro vs f hl b
      cases vs with
      | nil => simp at hl
      | cons v0 vs =>
        obtain ⟨f1, f2, e, o, r⟩ := OwnL.cons_iff.mp b
        obtain ⟨g, hg, pm⟩ := ih (by simpa using hl) r
        obtain ⟨g1, g2, e2, o2, r2⟩ := OwnL.cons_iff.mp hg
        refine ⟨g1 ++ (f1 ++ g2), OwnL.cons_iff.mpr ⟨g1, f1 ++ g2, rfl, o2, OwnL.cons_iff.mpr ⟨f1, g2, rfl, o, r2⟩⟩, ?_⟩
        subst e e2
        exact (List.Perm.append_left _ pm).trans (List.perm_append_comm_assoc _ _ _)
  obtain ⟨f2, o2, pm⟩ := go hl b
  exact ⟨S.gh, S.gg, S.hh, S.n, fp, f2, a, o2, (List.Perm.append_left fp pm).nodup_iff.mp cc, fun p hp => d p ((List.Perm.append_left fp pm).mem_iff.mpr hp)⟩
theorem dms_cons {f : FM} {g : FMs} (h1 : DM X W e f) (h2 : DMs X W es g) (hs : starEach (e :: es) X.env = (false, eval e X.env) :: starEach es X.env := by rfl) : DMs X W (e :: es) (consM f g) := by
  obtain ⟨te, p1, k1⟩ := h1
  obtain ⟨ta, p2, k2⟩ := h2
  refine ⟨_, pa_cons p1 p2 hs, fun A ρ G H σ us ws Q S h => ?_⟩
  refine k1 A ρ G H σ us ws _ S ?_
  unfold consM at h
  cases q : f ρ with
  | none => rw [q] at h; exact h
  | some o =>
    rw [q] at h
    cases o with
    | exc x ρ1 => exact h
    | ok t ρ1 =>
      intro v G1 H1 s1 S1
      refine k2 A ρ1 G1 H1 σ (t :: us) (v :: ws) _ S1 ?_
      cases q2 : g ρ1 with
      | none => simp only [q2] at h; exact h
      | some o2 =>
        simp only [q2] at h
        cases o2 with
        | exc x ρ2 => exact h
        | ok ts ρ2 => exact fun vs G2 H2 s2 hl S2 => h (v :: vs) G2 H2 (s1.trans s2) (by simp [hl]) (S2.swap hl)
theorem OwnL.split_app {K : PySem.W.Frag} {G H : Hp} {us : List T} {ws : List V} : ∀ {ts : List T} {vs : List V} {f : List Addr}, vs.length = ts.length → OwnL K G H (ts ++ us) (vs ++ ws) f → ∃ ga gb, f = ga ++ gb ∧ OwnL K G H ts vs ga ∧ OwnL K G H us ws gb
  | [], [], f, _, b => ⟨[], f, rfl, by simp [OwnL], b⟩
  | [], _ :: _, _, hl, _ => by simp at hl
  | _ :: _, [], _, hl, _ => by simp at hl
  | t :: ts, v :: vs, f, hl, b => by
    obtain ⟨x1, x2, ex, ox, bx⟩ := OwnL.cons_iff.mp b
    obtain ⟨ga, gb, eq, h1, h2⟩ := OwnL.split_app (by simpa using hl) bx
    exact ⟨x1 ++ ga, gb, by rw [ex, eq, List.append_assoc], OwnL.cons_iff.mpr ⟨x1, ga, rfl, ox, h1⟩, h2⟩
/-- packed into a new object -/
theorem SttV.pack {K : PySem.W.Frag} {A : Act} {G H : Hp} {σ : St} {ρ : Env} {ts us : List T} {vs ws : List V} {t : T} {o : HO} (S : SttV K A G H σ ρ (ts ++ us) (vs ++ ws)) (hl : vs.length = ts.length) {p : Addr} (hp : H p = none)
    (mk : ∀ f, OwnL K G (upd H p o) ts vs f → Own K G (upd H p o) t (.ref p) (p :: f)) : SttV K A G (upd H p o) σ ρ (t :: us) (.ref p :: ws) := by
  have g : Grow G H G (upd H p o) := Grow.alloc S.gh hp
  have S2 := S.grow g
  obtain ⟨fp, f, a, b, cc, d⟩ := S.own
  have hd : ∀ q ∈ fp ++ f, ∃ o, H q = some o := fun q hq => by
    rcases List.mem_append.mp hq with hq | hq
    · exact a.dom q hq
    · exact OwnL.dom _ _ _ b q hq
  have keep : ∀ q ∈ fp ++ f, upd H p o q = H q := fun q hq => by obtain ⟨u, e⟩ := hd q hq; rw [e, g.h _ _ e]
  have pn : p ∉ fp ++ f := fun z => by obtain ⟨u, e⟩ := hd p z; rw [hp] at e; cases e
  have b' : OwnL K G (upd H p o) (ts ++ us) (vs ++ ws) f := b.grow g
  obtain ⟨ga, gb, ef, h1, h2⟩ := OwnL.split_app hl b'
  subst ef
  refine ⟨S2.gh, S2.gg, S2.hh, S2.n, fp, (p :: ga) ++ gb, a.mono (Same.refl G) fun q hq => keep q (by simp [hq]), OwnL.cons_iff.mpr ⟨p :: ga, gb, rfl, mk ga h1, h2⟩, ?_, fun q hq => ?_⟩
  · have : List.Perm (fp ++ (p :: ga ++ gb)) (p :: (fp ++ (ga ++ gb))) := List.perm_middle
    exact this.nodup_iff.mpr (List.nodup_cons.mpr ⟨pn, cc⟩)
  · have : List.Perm (fp ++ (p :: ga ++ gb)) (p :: (fp ++ (ga ++ gb))) := List.perm_middle
    rcases List.mem_cons.mp (this.mem_iff.mp hq) with rfl | hq
    · refine ⟨S.gh.free hp, ?_⟩
      cases q0 : A.H0 q with
      | none => exact .inl rfl
      | some u =>
        refine .inr (Classical.byContradiction fun z => ?_)
        have := S.hh q u q0 z
        rw [hp] at this; cases this
    · exact d q hq
def tupM (f : FMs) : FM := fun ρ => match f ρ with
  | some (.ok ts ρ') => if ts.length ≤ sizeLine then some (.ok (.tup ts) ρ') else none
  | some (.exc x ρ') => some (.exc x ρ')
  | none => none
def lstM (f : FMs) : FM := fun ρ => match f ρ with
  | some (.ok ts ρ') => if ts.length ≤ sizeLine then some (.ok (.lst ts) ρ') else none
  | some (.exc x ρ') => some (.exc x ρ')
  | none => none
theorem dm_tup {k : Nat} {f : FMs} (ha : DMs X W es f) : DM X W (.Tuple es k pos) (tupM f) := by
  obtain ⟨ta, p1, k1⟩ := ha
  refine ⟨_, pe_tup p1, fun A ρ G H σ us ws Q S h => k1 A ρ G H σ us ws _ S ?_⟩
  unfold tupM at h
  cases q : f ρ with
  | none => rw [q] at h; exact h
  | some o =>
    rw [q] at h
    cases o with
    | exc x ρ1 => exact h
    | ok ts ρ1 =>
      intro vs G1 H1 s1 hl S1
      simp only at h
      by_cases hz : ts.length ≤ sizeLine
      · rw [if_pos hz] at h
        refine ⟨by rw [hl]; exact hz, fun p hp => h (.ref p) G1 _ (s1.trans (same_upd hp)) (S1.pack hl hp fun f o => ?_)⟩
        simp only [Own]
        exact ⟨p, vs, f, rfl, rfl, upd_same, o⟩
      · rw [if_neg hz] at h; exact h.elim
theorem dm_lst {f : FMs} (ha : DMs X W es f) : DM X W (.List es pos) (lstM f) := by
  obtain ⟨ta, p1, k1⟩ := ha
  refine ⟨_, pe_lst p1, fun A ρ G H σ us ws Q S h => k1 A ρ G H σ us ws _ S ?_⟩
  unfold lstM at h
  cases q : f ρ with
  | none => rw [q] at h; exact h
  | some o =>
    rw [q] at h
    cases o with
    | exc x ρ1 => exact h
    | ok ts ρ1 =>
      intro vs G1 H1 s1 hl S1
      simp only at h
      by_cases hz : ts.length ≤ sizeLine
      · rw [if_pos hz] at h
        refine ⟨by rw [hl]; exact hz, fun p hp => h (.ref p) G1 _ (s1.trans (same_upd hp)) (S1.pack hl hp fun f o => ?_)⟩
        simp only [Own]
        exact ⟨p, vs, f, rfl, rfl, upd_same, o⟩
      · rw [if_neg hz] at h; exact h.elim
def runM (o : Option EM) (k : T → Env → Option Out) : Option Out := match o with
  | none => none
  | some (.ok t ρ) => k t ρ
  | some (.exc x ρ) => some (.exc x ρ)
def retM (f : FM) : FS := fun ρ => runM (f ρ) fun t ρ' => some (.rt t ρ')
theorem ds_retM {f : FM} (h : DM X W e f) : DS X W (.Return (some e) pos) (retM f) := by
  obtain ⟨te, p, k⟩ := h
  refine ⟨_, ps_ret p, fun A ρ G H σ D S h => k A ρ G H σ [] [] _ S ?_⟩
  unfold retM runM at h
  cases q : f ρ with
  | none => rw [q] at h; exact h
  | some o =>
    rw [q] at h
    cases o with
    | ok t ρ1 => exact fun v G1 H1 _ S1 => h v σ G1 H1 S1
    | exc x ρ1 => exact fun d G1 H1 S1 ex => h d σ G1 H1 S1 ex
def setM (i : Nat) (f : FM) : FS := fun ρ => runM (f ρ) fun t ρ' => some (.nx (ρ'.set i (some t)))
theorem ds_setM {f : FM} (i : Nat) {x : Str} {pos' : Pos} (hN : X.N.Nodup) (h : DM X W e f) (hi : X.N[i]? = some x := by rfl) (hx : Loc X.env.scope x := by first | exact Or.inl rfl | exact Or.inr rfl) (hs : swapsWith e (some (.Name x pos')) pos.line X.env = pure false := by rfl)
    (hf : X.fn x = true ∨ X.env.scope.names.lookup x = some .local := by first | exact .inl rfl | exact .inr rfl | assumption) : DS X W (.Assign [.Name x pos'] e pos) (setM i f) := by
  obtain ⟨te, p, k⟩ := h
  refine ⟨_, ps_set (i := i) hN hi hx p hs hf, fun A ρ G H σ D S h => k A ρ G H σ [] [] _ S ?_⟩
  unfold setM runM at h
  cases q : f ρ with
  | none => rw [q] at h; exact h
  | some o =>
    rw [q] at h
    cases o with
    | ok t ρ1 => exact fun v G1 H1 _ S1 => h _ G1 H1 (S1.store i)
    | exc x ρ1 => exact fun d G1 H1 S1 ex => h d σ G1 H1 S1 ex
/-- o.append(e), e a value that is moved -/
def appendM (i : Nat) (f : FP) (fe : FM) : FS := fun ρ => runE (f ρ) ρ fun π => match atE i π ρ with
  | some (.lst _) => runM (fe ρ) fun t ρ' => match atE i π ρ' with
    | some (.lst l) => if l.length < sizeLine then some (.nx (putE i π (.lst (l ++ [t])) ρ')) else none
    | _ => none
  | _ => none
theorem ds_appendM {i : Nat} {f : FP} {fe : FM} {cpos : Pos} (ho : DP X W o i f) (he : DM X W e fe) (hbase : attributeBase o "append" X.env (eval o X.env) = eval o X.env := by rfl)
    (hfew : ((backTo cpos (starEach [e] X.env)).all (fun x => !x.1) && (backToKw cpos (keywordEach [] X.env)).all (fun x => x.1.isSome)
      && decide ([e].length + ([] : List Keyword).length + (if ([] : List Keyword).isEmpty then 0 else 1) < 30)) = true := by rfl)
    (hline : (apos.endLine == cpos.line) = true := by rfl) (hs : starEach [e] X.env = (false, eval e X.env) :: starEach [] X.env := by rfl) (hplain : (backTo cpos (starEach [] X.env)).any (·.1) = false := by rfl)
    (hsw : swapsWith (.Call (.Attribute o "append" apos) [e] [] cpos) none pos.line X.env = pure false := by rfl) : DS X W (.Expr (.Call (.Attribute o "append" apos) [e] [] cpos) pos) (appendM i f fe) := by
  obtain ⟨to, p1, k1⟩ := ho
  obtain ⟨te, p2, k2⟩ := he
  refine ⟨_, ps_expr (pe_bm PySem.F.plainAttrs_list PySem.F.slot_list_append PySem.F.type_list_append mt_append p1 (pa_cons p2 pa_nil hs) hbase hfew hline hs hplain) hsw, fun A ρ G H σ D S h => ?_⟩
  refine k1 ρ G H σ _ S.gh S.slots ((PostS.run S h).imp fun π hp => ?_)
  cases q : atE i π ρ with
  | none => rw [q] at hp; exact hp.elim
  | some u =>
    rw [q] at hp
    cases u with
    | lst l =>
      simp only at hp
      refine ⟨⟨_, rfl⟩, fun v0 w G1 H1 g1 hv hw => ?_⟩
      have S1 := S.grow g1
      obtain ⟨t0, f0, _, _, oo⟩ := S1.place q hv hw
      have oo' := oo
      simp only [Own] at oo'
      obtain ⟨p, xs, f2, rfl, _, hh, _⟩ := oo'
      refine ⟨.inl ⟨rfl, xs, .of hh⟩, ?_⟩
      refine k2 A ρ G1 H1 σ [] [] _ S1 ?_
      unfold runM at hp
      cases q2 : fe ρ with
      | none => rw [q2] at hp; exact hp.elim
      | some o2 =>
        rw [q2] at hp
        cases o2 with
        | exc x ρ1 => exact fun d G2 H2 S2 ex => hp d σ G2 H2 S2 ex
        | ok t ρ1 =>
          simp only at hp
          cases q3 : atE i π ρ1 with
          | none => rw [q3] at hp; exact hp.elim
          | some u3 =>
            rw [q3] at hp
            cases u3 with
            | lst l3 =>
              simp only at hp
              by_cases hl : l3.length < sizeLine
              · rw [if_pos hl] at hp
                intro y G2 H2 s2 S2
                obtain ⟨p', xs', e', h', hx, S3⟩ := S2.append q3 hv (hw.mono s2)
                cases e'
                exact ⟨p, xs', y, rfl, rfl, h', by rw [hx]; exact hl, hp σ G2 _ S3⟩
              · rw [if_neg hl] at hp; exact hp.elim
            | _ => exact hp.elim
    | _ => exact hp.elim

/-! ### tuple(a fresh list) -/
def tupMvE (f : FE) : FE := fun ρ => bindE (f ρ) fun t => match t with | .lst ts => some (.ok (.tup ts)) | _ => none
theorem de_tupMv {x : Str} {p : Pos} {f : FE} (h : DE true X W e f) (hg : Gl X x) (hm : X.mg x = none) (hv : bootBuiltins x = some (.type "tuple"))
    (hn : x ≠ "__name__" := by decide) (hdb : (x == ("__debug__" : Str)) = false := by decide) (he : starEach [e] X.env = (false, eval e X.env) :: starEach [] X.env := by rfl) (hpl : (backTo pos (starEach [] X.env)).any (·.1) = false := by rfl) :
    DE true X W (.Call (.Name x p) [e] [] pos) (tupMvE f) := by
  obtain ⟨te, p1, k1⟩ := h
  refine ⟨_, pe_callTy call_tuple_of hg hm hv (pa_cons p1 pa_nil he) hn hdb he hpl, fun ρ G H σ Q s sl h => k1 ρ G H σ _ s sl (h.bind.imp fun t ht v G1 H1 fp g o c => ?_)⟩
  cases t with
  | lst ts =>
    simp only [Own] at o
    obtain ⟨q, xs, f', rfl, rfl, hq, r⟩ := o
    refine ⟨q, xs, rfl, .inl ⟨.of hq, fun l hl => ?_⟩⟩
    have c' := c.2 rfl
    have n0 := (List.nodup_cons.mp c'.1)
    have lf : l ∉ f' := fun z => by obtain ⟨o', e⟩ := OwnL.dom _ _ _ r l z; rw [hl] at e; cases e
    refine ht (.ref l) G1 _ (l :: f') (g.trans (Grow.alloc g.gh hl)) ?_ (And.intro (fun b hb => ?_) fun _ => ⟨List.nodup_cons.mpr ⟨lf, n0.2⟩, fun b hb => ?_⟩)
    · simp only [Own]
      exact ⟨l, xs, f', rfl, rfl, upd_same, r.grow (Grow.alloc g.gh hl)⟩
    · rcases List.mem_cons.mp hb with rfl | hb
      · exact g.gh.free hl
      · exact c.1 b (by simp [hb])
    · rcases List.mem_cons.mp hb with rfl | hb
      · exact g.h.free hl
      · exact c'.2 b (by simp [hb])
  | _ => exact ht.elim

/-! ### a slot lent for one answer that holds nothing of it -/
theorem frzSlot_slots {K : PySem.W.Frag} {G H : Hp} {σ : St} {ρ : Env} (s : Same G H) (sl : Slots K G H σ ρ) (i : Nat) (only : ∀ j t, j ≠ i → ρ[j]? = some (some t) → ∃ d, t = .sh d) : ∃ G', Same G G' ∧ Same G' H ∧ Slots K G' H σ (frzSlot i ρ) := by
  unfold frzSlot
  cases q : ρ[i]? with
  | none => exact ⟨G, Same.refl G, s, sl⟩
  | some o =>
    cases o with
    | none => exact ⟨G, Same.refl G, s, sl⟩
    | some t =>
      obtain ⟨v, fp, e, o, c⟩ := sl.2 i t q
      refine ⟨frzAt G H fp, frzAt_same s, frzAt_le s, by simp only [List.length_set]; exact sl.1, fun j u ej => ?_⟩
      by_cases hj : i = j
      · subst hj
        rw [List.getElem?_set_self (List.getElem?_eq_some_iff.mp q).1] at ej
        cases ej
        exact ⟨v, [], e, by simp only [Own]; exact ⟨trivial, o.frozen s⟩, by simp⟩
      · rw [List.getElem?_set_ne hj] at ej
        obtain ⟨w, f, a, b, d⟩ := sl.2 j u ej
        obtain ⟨z, rfl⟩ := only j u (fun z => hj z.symm) ej
        simp only [Own] at b
        obtain ⟨rfl, b⟩ := b
        exact ⟨w, [], a, by simp only [Own]; exact ⟨trivial, Rep.mono (frzAt_same s) _ _ b⟩, by simp⟩
def onlyB (i : Nat) : Nat → Env → Bool
  | _, [] => true
  | j, none :: ρ => onlyB i (j + 1) ρ
  | j, some (.sh _) :: ρ => onlyB i (j + 1) ρ
  | j, some _ :: ρ => decide (j = i) && onlyB i (j + 1) ρ
theorem onlyB_ok {i : Nat} : ∀ {ρ : Env} {j : Nat}, onlyB i j ρ = true → ∀ n t, j + n ≠ i → ρ[n]? = some (some t) → ∃ d, t = .sh d
  | [], j, _, n, t, _, e => by simp at e
  | o :: ρ, j, h, n, t, hn, e => by
    have tail : onlyB i (j + 1) ρ = true := by
      cases o with
      | none => simpa [onlyB] using h
      | some t => cases t <;> simp [onlyB] at h <;> first | exact h | exact h.2
    cases n with
    | zero =>
      have : o = some t := by simpa using e
      subst this
      cases t with
      | sh d => exact ⟨d, rfl⟩
      | _ => simp [onlyB] at h; exact absurd h.1 (by simpa using hn)
    | succ n => exact onlyB_ok tail n t (by omega) (by simpa using e)
/-- f, slot i read as shared data; the answer is a scalar -/
def borrowE (i : Nat) (f : FE) : FE := fun ρ => if onlyB i 0 ρ then (match f (frzSlot i ρ) with
  | some (.ok t) => liftO (scT (shD t))
  | _ => none) else none
theorem de_borrow (i : Nat) (h : DE true X W e fe) : DE true X W e (borrowE i fe) := by
  obtain ⟨te, p, k⟩ := h
  refine ⟨te, p, fun ρ G H σ Q s sl h => ?_⟩
  unfold borrowE at h
  by_cases hb : onlyB i 0 ρ = true
  · rw [if_pos hb] at h
    obtain ⟨G', s1, s2, sl'⟩ := frzSlot_slots s sl i fun j t hj e => onlyB_ok hb j t (by simpa using hj) e
    refine k (frzSlot i ρ) G' H σ Q s2 sl' ?_
    cases q : fe (frzSlot i ρ) with
    | none => rw [q] at h; exact h
    | some o =>
      rw [q] at h
      cases o with
      | exc x => exact h.elim
      | ok t =>
        obtain ⟨z, e, kk⟩ := Post.lift h
        obtain ⟨d, x, e1, e2, rfl⟩ := scT_some e
        intro v G1 H1 fp g o c
        cases t with
        | sh d' =>
          simp only [shD, Option.some.injEq] at e1
          subst e1
          simp only [Own] at o
          exact kk v G H1 [] ⟨Same.refl G, g.h, s.trans g.h, fun _ _ _ n => n⟩ (by
            have hx := scD_rep e2 o.2
            subst hx
            simp only [Own]
            exact ⟨trivial, rep_scD e2⟩) .nil
        | _ => simp [shD] at e1
  · rw [if_neg hb] at h; exact h.elim

/-! ### name = [..] on one line -/
theorem DEs.frz (h : DEs X W e fe) : DEs X W e (frzV fe) := by
  obtain ⟨te, p, k, z⟩ := h
  refine ⟨te, p, fun ρ G H σ Q s sl h => k ρ G H σ Q s sl (h.bind.imp fun t ht v G' H' fp g o c => ?_), z⟩
  refine ht v (frzAt G' H' fp) H' [] (g.frz (c.2 rfl).2) ?_ .nil
  simp only [Own]
  exact ⟨trivial, o.frozen g.gh⟩
theorem ds_setLC (i : Nat) {y : Str} {py : Pos} (h : DEs X W e fe) (hi : X.N[i]? = some y := by rfl) (hyl : X.env.scope.names.lookup y = some .local := by rfl) (hsw : swapsWith e (some (.Name y py)) pos.line X.env = pure true := by exact sw_true rfl rfl rfl (by decide +kernel)) :
    DS X W (.Assign [.Name y py] e pos) (setF i fe) := by
  obtain ⟨te, p, k, z⟩ := h
  refine ⟨_, z i y py pos hi hyl hsw, fun A ρ G H σ D S h => ?_⟩
  exact k ρ G H σ _ S.gh S.slots ((PostS.run S h).imp fun t ht v G' H' fp g o c => ht _ G' H' ((S.take g o c).store i))

/-! ### * -/
/-! tuple * 1, () * k: the tuple itself -/
theorem tuple_mulW1 (l : Addr) (items : Array Value) (n : Nat) (dd : Option Addr) (sl : Array (Option Value)) (x : Int) (u : Tok) (c0 : (decide (x < -(2 ^ 63)) || decide (x ≥ 2 ^ 63)) = false) (c1 : (items.isEmpty || x == 1) = true) :
    Meets (Builtin.«tuple.__mul__» ⟨[.ref l, .int x u], []⟩) (fun _ R s => s.heap.get? l = some { cls := .type "tuple", dict := dd, data := .seq items n, slots := sl } ∧
      R (.ok (.ret (Value.ref l))) s) :=
  .of_wp fun prog w A R s h => by
    obtain ⟨hp, g, d, tk, os⟩ := s
    obtain ⟨hl, h⟩ := h
    have f1 := AutoSeq1.idx_int
    wp_walk using wpAny_loadPart' hl
    repeat (first
      | (refine wpAny_ite_false (decide_eq_false (by rw [c0]; exact Bool.false_ne_true)) ?_; wp_walk using wpAny_loadPart' hl)
      | (refine wpAny_ite_true (decide_eq_true (by rw [c1])) ?_; wp_walk using wpAny_loadPart' hl))
    exact ⟨_, rfl, h⟩
def rRepT1 (K : PySem.W.Frag) : R2 := fun x y H Q => ∃ l k xs, x = .ref l ∧ y = .int k ∧ SqT K H l xs ∧ (xs = [] ∨ k = 1) ∧ -(2 ^ 63) ≤ k ∧ k < 2 ^ 63 ∧ Q (.ref l) H
theorem op_repT1 : OpR X (binaryOp .Mult) (rRepT1 X.K) := by
  intro pins s σ H x y v u Q I rx ry h
  obtain ⟨l, k, xs, rfl, rfl, hT, hne, h1, h2, q⟩ := h
  cases rx
  obtain ⟨t, rfl⟩ := ry
  obtain ⟨its, r, ⟨⟨cls, dd, data, sl⟩, ho, hc, n, hd⟩, hs⟩ := I.tuple hT
  simp only at hc hd
  subst hc hd
  have hle : its.length = xs.length := r.length.symm
  have c0 : (decide (k < -(2 ^ 63)) || decide (k ≥ 2 ^ 63)) = false := by
    rw [decide_eq_false (by omega), decide_eq_false (by omega)] <;> rfl
  have c1 : (its.toArray.isEmpty || k == 1) = true := by
    rcases hne with rfl | rfl
    · have : its = [] := List.eq_nil_of_length_eq_zero hle
      subst this
      rfl
    · simp
  refine wpAny_binaryOp_repeat_ref (T := "tuple") (U := "int") (by decide) ⟨_, ho, rfl⟩ (fun s' => typeIs_int s' k t) noFill_tuple_mul F.fills_int_mul F.slot_int_rmul repeat_tuple F.slot_int_index.lookup
    (call_meets F.slot_int_rmul (typeIs_int s k t) F.entry_int_rmul (F.args_int_rmul_2 _ _) (int_rmul_tuple k t l its.toArray n dd sl)
      ⟨ho, rfl, ⟨_, ho, rfl⟩, call_meets F.slot_tuple_mul ⟨_, ho, rfl⟩ F.entry_tuple_mul (F.args_tuple_mul_2 _ _) (tuple_mulW1 l its.toArray n dd sl k t c0 c1) ⟨ho, ?_⟩⟩)
  exact ⟨.ref l, _, I, rfl, q⟩
def repT1 (t u : T) : Option T := match shTup t, intT u with
  | some a, some k => if (a = [] ∨ k = 1) ∧ -(2 ^ 63) ≤ k ∧ k < 2 ^ 63 then some (.sh (.tup a)) else none
  | _, _ => none
theorem opd_repT1 {K : PySem.W.Frag} : OpD K (rRepT1 K) repT1 := by
  intro t1 t2 t v1 v2 f1 f2 G H Q e s o1 o2 k
  unfold repT1 at e
  cases q1 : shTup t1 with
  | none => simp only [q1] at e; cases e
  | some a =>
    cases q2 : intT t2 with
    | none => simp only [q1, q2] at e; cases e
    | some b =>
      simp only [q1, q2] at e
      by_cases h : (a = [] ∨ b = 1) ∧ -(2 ^ 63) ≤ b ∧ b < 2 ^ 63
      · rw [if_pos h] at e
        cases e
        obtain ⟨z, p, xs, rfl, h1, r1⟩ := shTup_own s q1 o1
        have hx := RepL.length _ _ r1
        have := intT_own q2 o2
        subst this
        refine ⟨p, b, xs, rfl, rfl, h1, ?_, h.2.1, h.2.2, k _ G H [] (Grow.refl s) (by simp only [Own]; exact ⟨trivial, z⟩) .nil⟩
        rcases h.1 with rfl | e
        · exact .inl (List.eq_nil_of_length_eq_zero hx)
        · exact .inr e
      · rw [if_neg h] at e; cases e
def mulT : T → T → Option T := fun t u => match vop mulV t u with
  | some z => some z
  | none => match repLT t u with
    | some z => some z
    | none => match repTT t u with
      | some z => some z
      | none => repT1 t u
theorem opd_mul {K : PySem.W.Frag} : OpD K (fun x y H Q => rI CMul (fun i j => .int (i * j)) x y H Q ∨ rRep x y H Q ∨ rRepT K x y H Q ∨ rRepT1 K x y H Q) mulT := (OpV.d opv_mul).or (opd_repL.or (opd_repT.or opd_repT1))
theorem opr_mul : OpR X (binaryOp .Mult) (fun x y H Q => rI CMul (fun i j => .int (i * j)) x y H Q ∨ rRep x y H Q ∨ rRepT X.K x y H Q ∨ rRepT1 X.K x y H Q) := op_mul.or (op_rep.or (op_repT.or op_repT1))

/-! ### a call that may change all that its argument owns; the argument is not looked at again -/
def clobF (i : Nat) (ok : T → Bool) : FS := fun ρ => match ρ[i]? with | some (some t) => if ok t then some (.nx (ρ.set i none)) else none | _ => none
/-- what such a def promises: outside of fp all stands -/
def spClob (K : PySem.W.Frag) (ok : T → Bool) : Sp := fun vs H Q _ => ∃ G t v fp, vs = [v] ∧ ok t = true ∧ Same G H ∧ Own K G H t v fp ∧ fp.Nodup ∧ (∀ p ∈ fp, G p = none) ∧ ∀ H', (∀ p o, H p = some o → p ∉ fp → H' p = some o) → Q .non H'
theorem ds_clob (i : Nat) {x y : Str} {p p2 pc : Pos} {k : Nat} {fa : Addr} {fd : FuncData} {ps : List Str} {ok : T → Bool} (C : Ctx X W) (Fo : FnOk X.prog X.w X.K X.mg X.base (L2.CX X.prog X.w) k fa fd ps (spClob X.K ok)) (hr : Room k X.A) (hm : X.mg x = some (.ref fa)) (hk : PySem.W.keepIn X.K (.ref fa) = true) (hb : Binds X.K fd ps [])
    (hN : X.N[i]? = some y := by rfl) (hv : Vis X.env.scope y := by first | exact Or.inl rfl | exact Or.inr (Or.inl rfl) | exact Or.inr (Or.inr rfl)) (hd : (y == ("__debug__" : Str)) = false := by decide) (hcd : (y == ("__classdict__" : Str)) = false := by decide)
    (hg : Gl X x := by rfl) (hdb : (x == ("__debug__" : Str)) = false := by decide) (he : starEach [.Name y p2] X.env = (false, eval (.Name y p2) X.env) :: starEach [] X.env := by rfl) (hpl : (backTo pc (starEach [] X.env)).any (·.1) = false := by rfl)
    (hs : swapsWith (.Call (.Name x p) [.Name y p2] [] pc) none pos.line X.env = pure false := by rfl) :
    DS X W (.Expr (.Call (.Name x p) [.Name y p2] [] pc) pos) (clobF i ok) := by
  refine ⟨_, ps_expr (pe_callS (E := fun σ => WE W σ) Fo hr hg hm hk hb (fun σ => passAt C.tk σ) (pa_cons (pv i hN hv hd hcd) pa_nil he) hdb he hpl) hs, fun A ρ G H σ D S h => ?_⟩
  unfold clobF at h
  cases q : ρ[i]? with
  | none => rw [q] at h; exact h.elim
  | some o =>
    rw [q] at h
    cases o with
    | none => exact h.elim
    | some t =>
      simp only at h
      by_cases ht : ok t = true
      · rw [if_pos ht] at h
        obtain ⟨v, e, S1⟩ := S.move q
        obtain ⟨fp, f, a, b, cc, d⟩ := S1.own
        obtain ⟨f1, f2, ef, o1, b2⟩ := OwnL.cons_iff.mp b
        have e0 : f2 = [] := by simp only [OwnL] at b2; exact b2.2
        subst e0
        rw [List.append_nil] at ef
        subst ef
        refine ⟨v, e, G, t, v, f, rfl, ht, S1.gh, o1, (List.nodup_append.mp cc).2.1, fun p hp => (d p (by simp [hp])).1, fun H' hk => ?_⟩
        have gp : ∀ p o, G p = some o → H' p = some o := fun p o e => hk p o (S1.gh p o e) fun hp => by
          have := (d p (by simp [hp])).1
          rw [e] at this; cases this
        refine h σ G H' ⟨gp, S1.gg, fun p o e n => hk p o (S1.hh p o e n) fun hp => ?_, S1.n, fp, [], a.mono (Same.refl G) fun p hp => ?_, by simp [OwnL], by rw [List.append_nil]; exact (List.nodup_append.mp cc).1, fun p hp => d p (by simp at hp; simp [hp])⟩
        · rcases (d p (by simp [hp])).2 with z | z
          · rw [e] at z; cases z
          · exact n z
        · obtain ⟨o, e⟩ := a.dom p hp
          rw [e, hk p o e fun z => (List.nodup_append.mp cc).2.2 p hp p z rfl]
      · rw [if_neg ht] at h; exact h.elim
end
end DV

namespace DV
open PySem PySem.Spec PyProof.Rows L2

/-! ## walks that use their list up -/
section
variable {K : PySem.W.Frag} {A : Act} {G H G' H' : Hp} {σ σ' : St} {ρ ρ' : Env} {us us' : List T} {ws ws' : List V}
/-- run apart from the pending values -/
theorem SttV.frame (S : SttV K A G H σ ρ us ws) : ∃ fp0, Stt K ⟨G, H, fp0⟩ G H σ ρ ∧ ∀ G' H' σ' ρ', Stt K ⟨G, H, fp0⟩ G' H' σ' ρ' → SttV K A G' H' σ' ρ' us ws := by
  obtain ⟨fp, f, a, b, c, d⟩ := S.own
  have cc := List.nodup_append.mp c
  refine ⟨fp, ⟨S.gh, Same.refl G, fun p o e _ => e, fun p o _ _ e => e, fp, [], a, by simp [OwnL], by rw [List.append_nil]; exact cc.1, fun p hp => ?_⟩, fun G' H' σ' ρ' S' => ?_⟩
  · rw [List.append_nil] at hp
    exact ⟨(d p (by simp [hp])).1, .inr hp⟩
  · obtain ⟨fp', f', a', b', c', d'⟩ := S'.own
    have e0 : f' = [] := by simp only [OwnL] at b'; exact b'.2
    subst e0
    rw [List.append_nil] at c' d'
    have nf : ∀ p, p ∈ f → p ∉ fp := fun p h1 h2 => cc.2.2 p h2 p h1 rfl
    have out : ∀ p o, A.H0 p = some o → p ∉ A.fp0 → p ∉ fp := fun p o e n hp => by
      rcases (d p (by simp [hp])).2 with z | z
      · rw [e] at z; cases z
      · exact n z
    refine ⟨S'.gh, S.gg.trans S'.gg, fun p o e n => S'.hh p o (S.hh p o e n) (out p o e n), fun p o e n g => S'.n p o (S.hh p o e n) (out p o e n) (S.n p o e n g), fp', f, a', OwnL.mono S'.gg _ _ _ (fun p hp => ?_) b, ?_, fun p hp => ?_⟩
    · obtain ⟨o, eo⟩ := OwnL.dom _ _ _ b p hp
      rw [eo, S'.hh p o eo (nf p hp)]
    · refine List.nodup_append.mpr ⟨c', cc.2.1, fun p hp q hq e => ?_⟩
      subst e
      obtain ⟨o, eo⟩ := OwnL.dom _ _ _ b p hq
      rcases (d' p hp).2 with z | z
      · rw [show H p = none from z] at eo; cases eo
      · exact nf p hq z
    · rcases List.mem_append.mp hp with hp | hp
      · refine ⟨(d' p hp).1, ?_⟩
        rcases (d' p hp).2 with z | z
        · cases q : A.H0 p with
          | none => exact .inl rfl
          | some o =>
            refine .inr (Classical.byContradiction fun n => ?_)
            have := S.hh p o q n
            rw [show H p = none from z] at this; cases this
        · exact (d p (by rw [List.mem_append]; exact .inl z)).2
      · obtain ⟨o, eo⟩ := OwnL.dom _ _ _ b p hp
        exact ⟨S'.n p o eo (nf p hp) (d p (by simp [hp])).1, (d p (by simp [hp])).2⟩
/-- back from a smaller account -/
theorem SttV.sub {fp0 : List Addr} (S : SttV K A G H σ ρ us ws) (h : ∀ q ∈ fp0, A.H0 q = none ∨ q ∈ A.fp0) (S' : SttV K ⟨G, H, fp0⟩ G' H' σ' ρ' us' ws') : SttV K A G' H' σ' ρ' us' ws' := by
  have out : ∀ p o, A.H0 p = some o → p ∉ A.fp0 → p ∉ fp0 := fun p o e n hp => by
    rcases h p hp with z | z
    · rw [e] at z; cases z
    · exact n z
  obtain ⟨fp', f', a', b', c', d'⟩ := S'.own
  refine ⟨S'.gh, S.gg.trans S'.gg, fun p o e n => S'.hh p o (S.hh p o e n) (out p o e n), fun p o e n g => S'.n p o (S.hh p o e n) (out p o e n) (S.n p o e n g), fp', f', a', b', c', fun p hp => ⟨(d' p hp).1, ?_⟩⟩
  rcases (d' p hp).2 with z | z
  · cases q : A.H0 p with
    | none => exact .inl rfl
    | some o =>
      refine .inr (Classical.byContradiction fun n => ?_)
      have := S.hh p o q n
      rw [show H p = none from z] at this; cases this
  · exact h p z
/-- the root of what is used up stands apart -/
theorem SttV.open (S : SttV K A G H σ ρ us ws) {p : Addr} {o : HO} (hp : H p = some o) (fp f : List Addr) (a : SlotsD K G H σ ρ fp) (b : OwnL K G H us ws f) (c : (p :: (fp ++ f)).Nodup) (d : ∀ q ∈ p :: (fp ++ f), G q = none ∧ (A.H0 q = none ∨ q ∈ A.fp0)) :
    SttV K ⟨G, H, fp ++ f⟩ G H σ ρ us ws := ⟨S.gh, Same.refl G, fun p o e _ => e, fun p o _ _ e => e, fp, f, a, b, (List.nodup_cons.mp c).2, fun q hq => ⟨(d q (List.mem_cons_of_mem _ hq)).1, .inr hq⟩⟩
end
def eatT (tg : T → FS) (B : FS) (j : Nat) : FS := fun ρ => match ρ[j]? with
  | some (some (.tup ts)) => (match forF tg B ts (ρ.set j none) with | some (.nx ρ') => some (.nx ρ') | _ => none)
  | _ => none
section
variable {X : Cx} {W : WX} {t : Expr} {sts : List Stmt} {tg : T → FS} {B : FS} {pos p2 : Pos}
theorem turn_nx {t : T} {ts : List T} {ρ ρ' : Env} (h : forF tg B (t :: ts) ρ = some (.nx ρ')) : ∃ ρ1, tg t ρ = some (.nx ρ1) ∧ ((∃ ρ2, (B ρ1 = some (.nx ρ2) ∨ B ρ1 = some (.ct ρ2)) ∧ forF tg B ts ρ2 = some (.nx ρ')) ∨ B ρ1 = some (.bk ρ')) := by
  simp only [forF] at h
  cases q : tg t ρ with
  | none => rw [q] at h; cases h
  | some o =>
    rw [q] at h
    cases o with
    | nx ρ1 =>
      simp only at h
      refine ⟨ρ1, rfl, ?_⟩
      cases q2 : B ρ1 with
      | none => rw [q2] at h; cases h
      | some o2 =>
        rw [q2] at h
        cases o2 with
        | nx ρ2 => exact .inl ⟨ρ2, .inl rfl, h⟩
        | ct ρ2 => exact .inl ⟨ρ2, .inr rfl, h⟩
        | bk ρ2 => simp only [Option.some.injEq, Out.nx.injEq] at h; subst h; exact .inr rfl
        | _ => cases h
    | _ => cases h
/-- one turn -/
theorem eat_turn {g : TG} {tb : TS} (k2 : GOK X.K g tg) (k3 : SOK X.K W tb B) {A2 : Act} {D : Ends} {G' H : Hp} {σ : St} {ρi ρ' : Env} {t : T} {x : V} {us : List T} {ws : List V} {N : St → Hp → Prop}
    (S' : SttV X.K A2 G' H σ ρi (t :: us) (x :: ws)) (e : forF tg B (t :: us) ρi = some (.nx ρ')) (fin : ∀ σ G H, Stt X.K A2 G H σ ρ' → D.nx σ H)
    (nx : ∀ σ H ρ2 G2, SttV X.K A2 G2 H σ ρ2 us ws → forF tg B us ρ2 = some (.nx ρ') → N σ H) : g x σ H fun σ2 H2 => tb { D with nx := N, ct := N, bk := D.nx } σ2 H2 := by
  obtain ⟨ρ1, e1, hh⟩ := turn_nx e
  refine k2 A2 ρi G' H σ t x us ws _ S' ⟨ρ1, e1, fun σ3 G3 H3 _ S3 => ?_⟩
  obtain ⟨fp0, S4, back⟩ := S3.frame
  refine k3 _ ρ1 G3 H3 σ3 _ S4 ?_
  rcases hh with ⟨ρ2, e2 | e2, e3⟩ | e2
  · rw [e2]; exact fun σ4 G4 H4 S5 => nx σ4 H4 ρ2 G4 (back _ _ _ _ S5) e3
  · rw [e2]; exact fun σ4 G4 H4 S5 => nx σ4 H4 ρ2 G4 (back _ _ _ _ S5) e3
  · rw [e2]; exact fun σ4 G4 H4 S5 => fin σ4 G4 H4 (back _ _ _ _ S5).clear
theorem ds_eatT (j : Nat) {y : Str} (C : Ctx X W) (hg : DG X t tg) (hb : DSs X W sts B)
    (hN : X.N[j]? = some y := by rfl) (hv : Vis X.env.scope y := by first | exact Or.inl rfl | exact Or.inr (Or.inl rfl) | exact Or.inr (Or.inr rfl)) (hd : (y == ("__debug__" : Str)) = false := by decide) (hcd : (y == ("__classdict__" : Str)) = false := by decide)
    (hs : ∀ x, foldedSetIterable (.Name y p2) X.env x = pure x := by intro _; rfl) : DS X W (.For t (.Name y p2) sts [] pos) (eatT tg B j) := by
  obtain ⟨g, q2, k2⟩ := hg
  obtain ⟨tb, q3, k3⟩ := hb
  refine ⟨_, ps_for C.po C.calm (pi_tup (pv j hN hv hd hcd)) q2 q3 hs, fun A ρ G H σ D S h => ?_⟩
  unfold eatT at h
  cases q : ρ[j]? with
  | none => rw [q] at h; exact h.elim
  | some o =>
    rw [q] at h
    cases o with
    | none => exact h.elim
    | some u =>
      cases u with
      | tup ts =>
        simp only at h
        cases q4 : forF tg B ts (ρ.set j none) with
        | none => rw [q4] at h; exact h.elim
        | some o4 =>
          rw [q4] at h
          cases o4 with
          | nx ρ' =>
            obtain ⟨v, e, S1⟩ := S.move q
            obtain ⟨fp, f, a, b, c, d⟩ := S1.own
            obtain ⟨f1, f2, ef, o1, b2⟩ := OwnL.cons_iff.mp b
            have e0 : f2 = [] := by simp only [OwnL] at b2; exact b2.2
            subst e0
            rw [List.append_nil] at ef
            subst ef
            simp only [Own] at o1
            obtain ⟨p, xs, f3, rfl, rfl, hp, o3⟩ := o1
            have perm : List.Perm (fp ++ (p :: f3)) (p :: (fp ++ f3)) := List.perm_middle
            have c2 := perm.nodup_iff.mp c
            have d2 : ∀ z ∈ p :: (fp ++ f3), G z = none ∧ (A.H0 z = none ∨ z ∈ A.fp0) := fun z hz => d z (perm.mem_iff.mpr hz)
            have SS : SttV X.K A G H σ (ρ.set j none) ts xs := ⟨S1.gh, S1.gg, S1.hh, S1.n, fp, f3, a, o3, (List.nodup_cons.mp c2).2, fun z hz => d2 z (List.mem_cons_of_mem _ hz)⟩
            have S2 := SS.open hp fp f3 a o3 c2 d2
            have np : p ∉ fp ++ f3 := (List.nodup_cons.mp c2).1
            have hl : xs.length = ts.length := OwnL.length _ _ _ o3
            have fin : ∀ σ1 G1 H1, Stt X.K ⟨G, H, fp ++ f3⟩ G1 H1 σ1 ρ' → D.nx σ1 H1 := fun σ1 G1 H1 S3 => h σ1 G1 H1 (SS.sub (fun z hz => (d2 z (List.mem_cons_of_mem _ hz)).2) S3)
            refine ⟨.ref p, e, p, rfl, ⟨xs, .inl (.inl hp)⟩, for_tup (K := X.K) (a := p) (xs := xs) (fun i σ H1 => ∃ ρi G', SttV X.K ⟨G, H, fp ++ f3⟩ G' H1 σ ρi (ts.drop i) (xs.drop i) ∧ forF tg B (ts.drop i) ρi = some (.nx ρ')) ⟨_, G, S2, q4⟩ ?_ ?_ ?_⟩
            · rintro i σ1 H1 _ ⟨ρi, G1, S3, _⟩
              exact .inl (.inl (S3.hh p _ hp np))
            · rintro i x σ1 H1 hx ⟨ρi, G1, S3, e3⟩
              obtain ⟨hi, ex⟩ := List.getElem?_eq_some_iff.mp hx
              have hi2 : i < ts.length := by omega
              rw [List.drop_eq_getElem_cons hi2] at S3 e3
              rw [List.drop_eq_getElem_cons hi, ex] at S3
              exact eat_turn k2 k3 S3 e3 fin fun σ4 H4 ρ2 G2 S5 e5 => ⟨ρ2, G2, S5, e5⟩
            · rintro σ1 H1 ⟨ρi, G1, S3, e3⟩
              rw [hl, List.drop_length] at e3
              simp only [forF, Option.some.injEq, Out.nx.injEq] at e3
              subst e3
              exact fin σ1 G1 H1 S3.clear
          | _ => exact h.elim
      | _ => exact h.elim
theorem set_same {α : Type} {l : List α} {i : Nat} {x : α} (h : l[i]? = some x) : l.set i x = l := by
  apply List.ext_getElem?
  intro k
  by_cases hk : i = k
  · subst hk
    rw [List.getElem?_set_self (List.getElem?_eq_some_iff.mp h).1, h]
  · rw [List.getElem?_set_ne hk]
theorem ownl_any {K : PySem.W.Frag} {G H : Hp} : ∀ {ts : List T} {xs : List V}, xs.length = ts.length → OwnL K G H (ts.map fun _ => T.sh .any) xs []
  | [], xs, h => by
    have : xs = [] := List.eq_nil_of_length_eq_zero h
    subst this
    simp [OwnL]
  | t :: ts, [], h => by simp at h
  | t :: ts, x :: xs, h => by
    simp only [List.map_cons, OwnL]
    exact ⟨x, xs, [], [], rfl, rfl, by simp [Own, Rep], ownl_any (by simpa using h)⟩
/-- a list is used up: its items are forgotten, the list itself stays -/
noncomputable def eatL (tg : T → FS) (B : FS) (j : Nat) : FS := fun ρ => match ρ[j]? with
  | some (some (.lst ts)) => by
    classical exact if h : ∃ ρ0 : Env, j < ρ0.length ∧ ∀ a, forF tg B ts (ρ.set j (some (.sh (.ref a)))) = some (.nx (ρ0.set j (some (.sh (.ref a))))) then some (.nx (h.choose.set j (some (.lst (ts.map fun _ => T.sh .any))))) else none
  | _ => none
theorem eatL_of {ρ ρ0 : Env} {j : Nat} {ts : List T} (h : ρ[j]? = some (some (.lst ts))) (hl : j < ρ0.length) (k : ∀ a, forF tg B ts (ρ.set j (some (.sh (.ref a)))) = some (.nx (ρ0.set j (some (.sh (.ref a)))))) :
    eatL tg B j ρ = some (.nx (ρ0.set j (some (.lst (ts.map fun _ => T.sh .any))))) := by
  unfold eatL
  rw [h]
  have ex : ∃ ρ0 : Env, j < ρ0.length ∧ ∀ a, forF tg B ts (ρ.set j (some (.sh (.ref a)))) = some (.nx (ρ0.set j (some (.sh (.ref a))))) := ⟨ρ0, hl, k⟩
  simp only
  rw [dif_pos ex]
  have h2 := ex.choose_spec.2 0
  rw [k 0] at h2
  simp only [Option.some.injEq, Out.nx.injEq] at h2
  have h3 := congrArg (fun l : Env => l.set j (some (.lst (ts.map fun _ => T.sh .any)))) h2
  simp only [List.set_set] at h3
  rw [h3]
theorem ds_eatL (j : Nat) {y : Str} (C : Ctx X W) (hg : DG X t tg) (hb : DSs X W sts B)
    (hN : X.N[j]? = some y := by rfl) (hv : Vis X.env.scope y := by first | exact Or.inl rfl | exact Or.inr (Or.inl rfl) | exact Or.inr (Or.inr rfl)) (hd : (y == ("__debug__" : Str)) = false := by decide) (hcd : (y == ("__classdict__" : Str)) = false := by decide)
    (hs : ∀ x, foldedSetIterable (.Name y p2) X.env x = pure x := by intro _; rfl) : DS X W (.For t (.Name y p2) sts [] pos) (eatL tg B j) := by
  obtain ⟨g, q2, k2⟩ := hg
  obtain ⟨tb, q3, k3⟩ := hb
  refine ⟨_, ps_for C.po C.calm (pi_list (pv j hN hv hd hcd)) q2 q3 hs, fun A ρ G H σ D S h => ?_⟩
  unfold eatL at h
  cases q : ρ[j]? with
  | none => rw [q] at h; exact h.elim
  | some o =>
    rw [q] at h
    cases o with
    | none => exact h.elim
    | some u =>
      cases u with
      | lst ts =>
        simp only at h
        by_cases ex : ∃ ρ0 : Env, j < ρ0.length ∧ ∀ a, forF tg B ts (ρ.set j (some (.sh (.ref a)))) = some (.nx (ρ0.set j (some (.sh (.ref a)))))
        · rw [dif_pos ex] at h
          have hc := ex.choose_spec
          generalize ex.choose = ρ0 at h hc
          obtain ⟨hlen, hall⟩ := hc
          obtain ⟨v, e, S1⟩ := S.move q
          obtain ⟨fp, f, a, b, c, d⟩ := S1.own
          obtain ⟨f1, f2, ef, o1, b2⟩ := OwnL.cons_iff.mp b
          have e0 : f2 = [] := by simp only [OwnL] at b2; exact b2.2
          subst e0
          rw [List.append_nil] at ef
          subst ef
          simp only [Own] at o1
          obtain ⟨p, xs, f3, rfl, rfl, hp, o3⟩ := o1
          have perm : List.Perm (fp ++ (p :: f3)) (p :: (fp ++ f3)) := List.perm_middle
          have c2 := perm.nodup_iff.mp c
          have d2 : ∀ z ∈ p :: (fp ++ f3), G z = none ∧ (A.H0 z = none ∨ z ∈ A.fp0) := fun z hz => d z (perm.mem_iff.mpr hz)
          have SS : SttV X.K A G H σ (ρ.set j none) ts xs := ⟨S1.gh, S1.gg, S1.hh, S1.n, fp, f3, a, o3, (List.nodup_cons.mp c2).2, fun z hz => d2 z (List.mem_cons_of_mem _ hz)⟩
          have S2 := SS.open hp fp f3 a o3 c2 d2
          have np : p ∉ fp ++ f3 := (List.nodup_cons.mp c2).1
          have hl : xs.length = ts.length := OwnL.length _ _ _ o3
          have S2' := (S2.take (t := .sh (.ref p)) (v := .ref p) (Grow.refl S2.gh) (by simp [Own, Rep]) .nil).store j
          rw [set_same e, List.set_set] at S2'
          have fin : ∀ σ1 G1 H1, Stt X.K ⟨G, H, fp ++ f3⟩ G1 H1 σ1 (ρ0.set j (some (.sh (.ref p)))) → D.nx σ1 H1 := fun σ1 G1 H1 S3 => by
            obtain ⟨v1, g1, ev, ov, _⟩ := S3.slots.2 j _ (List.getElem?_set_self hlen)
            simp only [Own, Rep] at ov
            have evv := ov.2
            subst evv
            obtain ⟨fp', f', a', b', c', d'⟩ := S3.own
            have e0 : f' = [] := by simp only [OwnL] at b'; exact b'.2
            subst e0
            rw [List.append_nil] at c' d'
            have hp1 : H1 p = some (.lst xs) := S3.hh p _ hp np
            have gp1 : G1 p = none := S3.n p _ hp np (d2 p (by simp)).1
            have np' : p ∉ fp' := fun z => by
              rcases (d' p z).2 with z | z
              · rw [show H p = none from z] at hp; cases hp
              · exact np z
            have S4 : SttV X.K ⟨G, H, p :: (fp ++ f3)⟩ G1 H1 σ1 (ρ0.set j (some (.sh (.ref p)))) [.lst (ts.map fun _ => T.sh .any)] [.ref p] := by
              refine ⟨S3.gh, S3.gg, fun z o ez nz => S3.hh z o ez fun w => nz (List.mem_cons_of_mem _ w), fun z o ez nz gz => S3.n z o ez (fun w => nz (List.mem_cons_of_mem _ w)) gz, fp', [p], a', ?_, ?_, fun z hz => ?_⟩
              · refine OwnL.cons_iff.mpr ⟨[p], [], rfl, ?_, by simp [OwnL]⟩
                simp only [Own]
                exact ⟨p, xs, [], rfl, rfl, hp1, ownl_any hl⟩
              · exact List.nodup_append.mpr ⟨c', by simp, fun x hx y hy => by rw [List.mem_singleton] at hy; subst hy; exact fun e => np' (e ▸ hx)⟩
              · rcases List.mem_append.mp hz with hz | hz
                · exact ⟨(d' z hz).1, (d' z hz).2.imp id fun w => List.mem_cons_of_mem _ w⟩
                · rw [List.mem_singleton] at hz
                  subst hz
                  exact ⟨gp1, .inr (by simp)⟩
            have S5 := (SS.sub (fun z hz => (d2 z hz).2) S4).store j
            rw [set_same ev, List.set_set] at S5
            exact h σ1 G1 H1 S5
          refine ⟨.ref p, e, p, rfl, ⟨xs, .of hp⟩, for_list (K := X.K) (a := p) (xs := xs) (fun i σ H1 => ∃ ρi G', SttV X.K ⟨G, H, fp ++ f3⟩ G' H1 σ ρi (ts.drop i) (xs.drop i) ∧ forF tg B (ts.drop i) ρi = some (.nx (ρ0.set j (some (.sh (.ref p)))))) ⟨_, G, S2', hall p⟩ ?_ ?_ ?_⟩
          · rintro i σ1 H1 _ ⟨ρi, G1, S3, _⟩
            exact .of (S3.hh p _ hp np)
          · rintro i x σ1 H1 hx ⟨ρi, G1, S3, e3⟩
            obtain ⟨hi, ex⟩ := List.getElem?_eq_some_iff.mp hx
            have hi2 : i < ts.length := by omega
            rw [List.drop_eq_getElem_cons hi2] at S3 e3
            rw [List.drop_eq_getElem_cons hi, ex] at S3
            exact eat_turn k2 k3 S3 e3 fin fun σ4 H4 ρ2 G2 S5 e5 => ⟨ρ2, G2, S5, e5⟩
          · rintro σ1 H1 ⟨ρi, G1, S3, e3⟩
            rw [hl, List.drop_length] at e3
            simp only [forF, Option.some.injEq, Out.nx.injEq] at e3
            subst e3
            exact fin σ1 G1 H1 S3.clear
        · rw [dif_neg ex] at h; exact h.elim
      | _ => exact h.elim
end
/-- a def that may spoil its one argument -/
theorem fn_okClob {P : Program} {w : World} {K : PySem.W.Frag} {mg : Str → Option Value} {base : Heap} {x qual y : Str} {st : Stmt} {f : Addr} {fd : FuncData} {N : List Str} {k : Nat} {F : FS} {ok : T → Bool} (Fn : Fun K x qual st f fd) (S : FnScope N [y] (defScope st))
    (body : ∀ (cdv : Value) (A : Around) (outer : List PySem.Env) (s : Shared) (H : Hp) (E : XK), Room k (A.deeper (envOfC qual (defScope st) s.heap.objs.size f cdv)) →
      Ctx (cxOf (L2.CX P w) P w K mg base N qual (defScope st) f cdv A outer s H E) (fun c d _ H => E c d H) → DSs (cxOf (L2.CX P w) P w K mg base N qual (defScope st) f cdv A outer s H E) (fun c d _ H => E c d H) (defBody st) F)
    (good : ∀ t, ok t = true → ∃ ρ', F (some t :: List.replicate (N.length - 1) none) = some (.nx ρ')) :
    FnOk P w K mg base (L2.CX P w) (k + 1) f fd [y] (spClob K ok) := by
  refine Fn.okX S (fun vs H Q E h => by obtain ⟨G, t, v, fp, rfl, _⟩ := h; rfl) (fun cdv A outer s H vs Q E hr h => ?_)
  obtain ⟨t, p, kk⟩ := body cdv A outer s H E hr ⟨takes_of rfl rfl rfl rfl, passes_of rfl, rfl, S.nd⟩
  obtain ⟨G, u, v, fp, rfl, hok, sg, o, nd, gn, h⟩ := h
  refine ⟨t, p, ?_⟩
  obtain ⟨ρ', eF⟩ := good u hok
  have S0 : Stt K ⟨G, H, fp⟩ G H (L2.start N [v]) (some u :: List.replicate (N.length - 1) none) := ⟨sg, Same.refl G, fun p o e _ => e, fun p o _ _ e => e, fp, [], ⟨fp, [], by simp, ⟨v, rfl, o⟩, entry_slots (ds := []) (vs := []) (by simp [RepL])⟩, by simp [OwnL], by simpa using nd, fun q hq => by
    rw [List.append_nil] at hq
    exact ⟨gn q hq, .inr hq⟩⟩
  refine kk ⟨G, H, fp⟩ _ G H (L2.start N [v]) _ S0 ?_
  rw [eF]
  exact fun σ' G' H' S' => h H' fun p o e n => S'.hh p o e n
end DV

namespace DV
open PySem PySem.Spec PyProof.Rows L2

/-! ## reckoning with the functions over data -/
section
variable {α β : Type} {ρ ρ1 : Env} {i j : Nat} {f f' fa fb fe fi : FE} {ga : FA} {c c' : FB} {F F' : FS} {d e : D} {t u : T} {ts : List T}
@[simp] theorem bindE_ok' (a : α) (g : α → Option (EO β)) : bindE (some (.ok a)) g = g a := Eq.trans rfl rfl
@[simp] theorem bindE_exc' (x : Exn) (g : α → Option (EO β)) : bindE (some (.exc x)) g = some (.exc x) := Eq.trans rfl rfl
@[simp] theorem runE_ok' (a : α) (k : α → Option Out) : runE (some (.ok a)) ρ k = k a := Eq.trans rfl rfl
@[simp] theorem runE_exc' (x : Exn) (k : α → Option Out) : runE (some (.exc x)) ρ k = some (.exc x ρ) := Eq.trans rfl rfl
@[simp] theorem liftO_some' (a : α) : liftO (some a) = some (.ok a) := Eq.trans rfl rfl
@[simp] theorem runM_ok (k : T → Env → Option Out) : runM (some (.ok t ρ)) k = k t ρ := Eq.trans rfl rfl
@[simp] theorem runM_exc (x : Exn) (k : T → Env → Option Out) : runM (some (.exc x ρ)) k = some (.exc x ρ) := Eq.trans rfl rfl
@[simp] theorem outE_rt : outE (some (.rt t ρ)) = some (.ok t) := Eq.trans rfl rfl
@[simp] theorem outE_nx : outE (some (.nx ρ)) = some (.ok (.sh .non)) := Eq.trans rfl rfl
@[simp] theorem outE_exc (x : Exn) : outE (some (.exc x ρ)) = some (.exc x) := Eq.trans rfl rfl
@[simp] theorem shOnly_sh : shOnly (.sh d) = some (.ok (.sh d)) := Eq.trans rfl rfl
@[simp] theorem d_sh : (T.sh d).d = d := by simp [T.d]
@[simp] theorem d_lst : (T.lst ts).d = .lst (T.dl ts) := by simp [T.d]
@[simp] theorem d_tup : (T.tup ts).d = .tup (T.dl ts) := by simp [T.d]
@[simp] theorem dl_nil : T.dl [] = [] := by simp [T.dl]
@[simp] theorem dl_cons : T.dl (t :: ts) = t.d :: T.dl ts := by simp [T.dl]
theorem dl_map : ∀ ts : List T, T.dl ts = ts.map T.d
  | [] => by simp
  | t :: ts => by simp [dl_map ts]
@[simp] theorem dl_mapsh (l : List D) : T.dl (l.map T.sh) = l := by rw [dl_map, List.map_map]; exact List.map_id'' (fun d => by simp) l
@[simp] theorem dl_comp {γ : Type} (f : γ → D) (l : List γ) : T.dl (l.map (T.sh ∘ f)) = l.map f := by
  have := dl_mapsh (l.map f)
  rwa [List.map_map] at this
@[simp] theorem dl_append (ts us : List T) : T.dl (ts ++ us) = T.dl ts ++ T.dl us := by simp [dl_map]
@[simp] theorem dl_flatten (l : List (List T)) : T.dl l.flatten = (l.map T.dl).flatten := by induction l with
  | nil => simp
  | cons a l ih => simp [ih]
/-! ### one step at a time: what is still to be reckoned stands unapplied -/
def slotE (o : Option (Option T)) : Option (EO T) := match o with | some (some t) => some (.ok t) | _ => none
@[simp] theorem slotE_ok : slotE (some (some t)) = some (.ok t) := rfl
@[simp] theorem rdVar_ap : rdVar i ρ = slotE ρ[i]? := rfl
@[simp] theorem vr_ap : vr i ρ = bindE (slotE ρ[i]?) shOnly := rfl
@[simp] theorem shE_ap : shE f ρ = bindE (f ρ) shOnly := rfl
@[simp] theorem cst_ap : cst d ρ = some (.ok (.sh d)) := rfl
def consE2 (t : T) (o : Option (EO (List T))) : Option (EO (List T)) := bindE o fun ts => some (.ok (t :: ts))
def consE1 (o : Option (EO T)) (ga : FA) (ρ : Env) : Option (EO (List T)) := bindE o fun t => consE2 t (ga ρ)
@[simp] theorem consE2_ok : consE2 t (some (.ok ts)) = some (.ok (t :: ts)) := rfl
@[simp] theorem consE2_exc (x : Exn) : consE2 t (some (.exc x)) = some (.exc x) := rfl
@[simp] theorem consE1_ok : consE1 (some (.ok t)) ga ρ = consE2 t (ga ρ) := rfl
@[simp] theorem consE1_exc (x : Exn) : consE1 (some (.exc x)) ga ρ = some (.exc x) := rfl
@[simp] theorem consA_ap : consA f ga ρ = consE1 (f ρ) ga ρ := rfl
@[simp] theorem nilA_ap : nilA ρ = some (.ok []) := rfl
def op1E (g : T → Option T) (o : Option (EO T)) : Option (EO T) := bindE o fun t => liftO (g t)
@[simp] theorem op1E_ok (g : T → Option T) : op1E g (some (.ok t)) = liftO (g t) := rfl
@[simp] theorem op1E_exc (g : T → Option T) (x : Exn) : op1E g (some (.exc x)) = some (.exc x) := rfl
def op2E (g : T → T → Option T) (o : Option (EO T)) (fb : FE) (ρ : Env) : Option (EO T) := bindE o fun t => op1E (g t) (fb ρ)
@[simp] theorem op2E_ok (g : T → T → Option T) : op2E g (some (.ok t)) fb ρ = op1E (g t) (fb ρ) := rfl
@[simp] theorem op2E_exc (g : T → T → Option T) (x : Exn) : op2E g (some (.exc x)) fb ρ = some (.exc x) := rfl
@[simp] theorem op2_ap (g : T → T → Option T) : op2 g fa fb ρ = op2E g (fa ρ) fb ρ := rfl
@[simp] theorem op1_ap (g : T → Option T) : op1 g fa ρ = op1E g (fa ρ) := rfl
def opAE (g : List T → Option T) (o : Option (EO (List T))) : Option (EO T) := bindE o fun t => liftO (g t)
@[simp] theorem opAE_ok (g : List T → Option T) : opAE g (some (.ok ts)) = liftO (g ts) := rfl
@[simp] theorem opAE_exc (g : List T → Option T) (x : Exn) : opAE g (some (.exc x)) = some (.exc x) := rfl
@[simp] theorem opA_ap (g : List T → Option T) : opA g ga ρ = opAE g (ga ρ) := rfl
def toBE (o : Option (EO T)) : Option (EO Bool) := bindE o fun t => liftO (boolT t)
@[simp] theorem toBE_ok (b : Bool) : toBE (some (.ok (.sh (.bl b)))) = some (.ok b) := rfl
@[simp] theorem toBE_exc (x : Exn) : toBE (some (.exc x)) = some (.exc x) := rfl
@[simp] theorem toB_ap : toB f ρ = toBE (f ρ) := rfl
@[simp] theorem boolT_bl (b : Bool) : boolT (.sh (.bl b)) = some b := rfl
def andE (o : Option (EO Bool)) (c' : FB) (ρ : Env) : Option (EO Bool) := bindE o fun b => if b then c' ρ else some (.ok false)
@[simp] theorem andE_t : andE (some (.ok true)) c' ρ = c' ρ := rfl
@[simp] theorem andE_f : andE (some (.ok false)) c' ρ = some (.ok false) := rfl
@[simp] theorem andE_exc (x : Exn) : andE (some (.exc x)) c' ρ = some (.exc x) := rfl
@[simp] theorem andB_ap : andB c c' ρ = andE (c ρ) c' ρ := rfl
def orE (o : Option (EO Bool)) (c' : FB) (ρ : Env) : Option (EO Bool) := bindE o fun b => if b then some (.ok true) else c' ρ
@[simp] theorem orE_t : orE (some (.ok true)) c' ρ = some (.ok true) := rfl
@[simp] theorem orE_f : orE (some (.ok false)) c' ρ = c' ρ := rfl
@[simp] theorem orE_exc (x : Exn) : orE (some (.exc x)) c' ρ = some (.exc x) := rfl
@[simp] theorem orB_ap : orB c c' ρ = orE (c ρ) c' ρ := rfl
def notE (o : Option (EO Bool)) : Option (EO Bool) := bindE o fun b => some (.ok (!b))
@[simp] theorem notE_ok (b : Bool) : notE (some (.ok b)) = some (.ok (!b)) := rfl
@[simp] theorem notE_exc (x : Exn) : notE (some (.exc x)) = some (.exc x) := rfl
@[simp] theorem notB_ap : notB c ρ = notE (c ρ) := rfl
def andVE (o : Option (EO T)) (fb : FE) (ρ : Env) : Option (EO T) := bindE o fun t => bindE (liftO (boolT t)) fun b => if b then fb ρ else some (.ok (.sh (.bl false)))
@[simp] theorem andVE_t : andVE (some (.ok (.sh (.bl true)))) fb ρ = fb ρ := rfl
@[simp] theorem andVE_f : andVE (some (.ok (.sh (.bl false)))) fb ρ = some (.ok (.sh (.bl false))) := rfl
@[simp] theorem andVE_exc (x : Exn) : andVE (some (.exc x)) fb ρ = some (.exc x) := rfl
@[simp] theorem andV_ap : andV fa fb ρ = andVE (fa ρ) fb ρ := rfl
def orVE (o : Option (EO T)) (fb : FE) (ρ : Env) : Option (EO T) := bindE o fun t => bindE (liftO (boolT t)) fun b => if b then some (.ok (.sh (.bl true))) else fb ρ
@[simp] theorem orVE_t : orVE (some (.ok (.sh (.bl true)))) fb ρ = some (.ok (.sh (.bl true))) := rfl
@[simp] theorem orVE_f : orVE (some (.ok (.sh (.bl false)))) fb ρ = fb ρ := rfl
@[simp] theorem orVE_exc (x : Exn) : orVE (some (.exc x)) fb ρ = some (.exc x) := rfl
@[simp] theorem orV_ap : orV fa fb ρ = orVE (fa ρ) fb ρ := rfl
def notVE (o : Option (EO T)) : Option (EO T) := bindE o fun t => bindE (liftO (boolT t)) fun b => some (.ok (.sh (.bl !b)))
@[simp] theorem notVE_ok (b : Bool) : notVE (some (.ok (.sh (.bl b)))) = some (.ok (.sh (.bl !b))) := rfl
@[simp] theorem notVE_exc (x : Exn) : notVE (some (.exc x)) = some (.exc x) := rfl
@[simp] theorem notV_ap : notV fa ρ = notVE (fa ρ) := rfl
def ifVE (o : Option (EO Bool)) (fa fb : FE) (ρ : Env) : Option (EO T) := bindE o fun b => if b then fa ρ else fb ρ
@[simp] theorem ifVE_t : ifVE (some (.ok true)) fa fb ρ = fa ρ := rfl
@[simp] theorem ifVE_f : ifVE (some (.ok false)) fa fb ρ = fb ρ := rfl
@[simp] theorem ifVE_exc (x : Exn) : ifVE (some (.exc x)) fa fb ρ = some (.exc x) := rfl
@[simp] theorem ifV_ap : ifV c fa fb ρ = ifVE (c ρ) fa fb ρ := rfl
@[simp] theorem nextF_ap : nextF ρ = some (.nx ρ) := rfl
def nxE (o : Option Out) (F : FS) : Option Out := match o with | some (.nx ρ') => F ρ' | o => o
@[simp] theorem seqF_ap : seqF F F' ρ = nxE (F ρ) F' := rfl
@[simp] theorem nxE_nx : nxE (some (.nx ρ)) F = F ρ := rfl
@[simp] theorem nxE_rt : nxE (some (.rt t ρ)) F = some (.rt t ρ) := rfl
@[simp] theorem nxE_bk : nxE (some (.bk ρ)) F = some (.bk ρ) := rfl
@[simp] theorem nxE_ct : nxE (some (.ct ρ)) F = some (.ct ρ) := rfl
@[simp] theorem nxE_exc (x : Exn) : nxE (some (.exc x ρ)) F = some (.exc x ρ) := rfl
def retE (o : Option (EO T)) (ρ : Env) : Option Out := runE o ρ fun t => some (.rt t ρ)
@[simp] theorem retE_ok : retE (some (.ok t)) ρ = some (.rt t ρ) := rfl
@[simp] theorem retE_exc (x : Exn) : retE (some (.exc x)) ρ = some (.exc x ρ) := rfl
@[simp] theorem retF_ap : retF f ρ = retE (f ρ) ρ := rfl
@[simp] theorem retN_ap : retN ρ = some (.rt (.sh .non) ρ) := rfl
def retMvE (o : Option (Option T)) (i : Nat) (ρ : Env) : Option Out := match o with | some (some t) => some (.rt t (ρ.set i none)) | _ => none
@[simp] theorem retMvE_ok : retMvE (some (some t)) i ρ = some (.rt t (ρ.set i none)) := rfl
@[simp] theorem retMv_ap : retMv i ρ = retMvE ρ[i]? i ρ := rfl
def dropE (o : Option (EO T)) (ρ : Env) : Option Out := runE o ρ fun _ => some (.nx ρ)
@[simp] theorem dropE_ok : dropE (some (.ok t)) ρ = some (.nx ρ) := rfl
@[simp] theorem dropE_exc (x : Exn) : dropE (some (.exc x)) ρ = some (.exc x ρ) := rfl
@[simp] theorem dropF_ap : dropF f ρ = dropE (f ρ) ρ := rfl
def ifE (o : Option (EO Bool)) (F F' : FS) (ρ : Env) : Option Out := runE o ρ fun b => if b then F ρ else F' ρ
@[simp] theorem ifE_t : ifE (some (.ok true)) F F' ρ = F ρ := rfl
@[simp] theorem ifE_f : ifE (some (.ok false)) F F' ρ = F' ρ := rfl
@[simp] theorem ifE_exc (x : Exn) : ifE (some (.exc x)) F F' ρ = some (.exc x ρ) := rfl
@[simp] theorem ifF_ap : ifF c F F' ρ = ifE (c ρ) F F' ρ := rfl
def setE (i : Nat) (o : Option (EO T)) (ρ : Env) : Option Out := runE o ρ fun t => some (.nx (ρ.set i (some t)))
@[simp] theorem setE_ok : setE i (some (.ok t)) ρ = some (.nx (ρ.set i (some t))) := rfl
@[simp] theorem setE_exc (x : Exn) : setE i (some (.exc x)) ρ = some (.exc x ρ) := rfl
@[simp] theorem setF_ap : setF i f ρ = setE i (f ρ) ρ := rfl
def setMvE (i j : Nat) (o : Option (Option T)) (ρ : Env) : Option Out := match o with | some (some t) => some (.nx ((ρ.set j none).set i (some t))) | _ => none
@[simp] theorem setMvE_ok : setMvE i j (some (some t)) ρ = some (.nx ((ρ.set j none).set i (some t))) := rfl
@[simp] theorem setMv_ap : setMv i j ρ = setMvE i j ρ[j]? ρ := rfl
@[simp] theorem tgName_ap : tgName i t ρ = some (.nx (ρ.set i (some t))) := rfl
def tgsE (o : Option Out) (gs : List (T → FS)) (ts : List T) : Option Out := match o with | some (.nx ρ') => tgsF gs ts ρ' | _ => none
@[simp] theorem tgsE_nx (gs : List (T → FS)) : tgsE (some (.nx ρ)) gs ts = tgsF gs ts ρ := rfl
@[simp] theorem tgsF_nil : tgsF [] [] ρ = some (.nx ρ) := rfl
@[simp] theorem tgsF_cons (g : T → FS) (gs : List (T → FS)) : tgsF (g :: gs) (t :: ts) ρ = tgsE (g t ρ) gs ts := rfl
@[simp] theorem tupItems_sh (l : List D) : tupItems (.sh (.tup l)) = some (l.map T.sh) := rfl
@[simp] theorem tupItems_tup : tupItems (.tup ts) = some ts := rfl
def tgTE (n : Nat) (tgs : List (T → FS)) (o : Option (List T)) (ρ : Env) : Option Out := match o with | some ts => if ts.length = n then tgsF tgs ts ρ else none | none => none
@[simp] theorem tgTE_ok (n : Nat) (tgs : List (T → FS)) : tgTE n tgs (some ts) ρ = if ts.length = n then tgsF tgs ts ρ else none := rfl
@[simp] theorem tgTup_ap (n : Nat) (tgs : List (T → FS)) : tgTup n tgs t ρ = tgTE n tgs (tupItems t) ρ := rfl
def asgE2 (o : Option Out) : Option Out := match o with | some (.nx ρ') => some (.nx ρ') | _ => none
@[simp] theorem asgE2_nx : asgE2 (some (.nx ρ)) = some (.nx ρ) := rfl
def asgE (tg : T → FS) (o : Option (EO T)) (ρ : Env) : Option Out := runE o ρ fun t => asgE2 (tg t ρ)
@[simp] theorem asgE_ok (tg : T → FS) : asgE tg (some (.ok t)) ρ = asgE2 (tg t ρ) := rfl
@[simp] theorem asgE_exc (tg : T → FS) (x : Exn) : asgE tg (some (.exc x)) ρ = some (.exc x ρ) := rfl
@[simp] theorem asgF_ap (tg : T → FS) : asgF tg f ρ = asgE tg (f ρ) ρ := rfl
@[simp] theorem listD_lst (l : List D) : listD (.lst l) = some l := rfl
@[simp] theorem listD_frl (l : List D) : listD (.frl l) = some l := rfl
@[simp] theorem listD_tup (l : List D) : listD (.tup l) = none := rfl
@[simp] theorem listD_str (l : Str) : listD (.str l) = none := rfl
@[simp] theorem tupD_tup (l : List D) : tupD (.tup l) = some l := rfl
def forE2 (tg : T → FS) (F : FS) (o : Option (List D)) (ρ : Env) : Option Out := match o with | some ds => forF tg F (ds.map T.sh) ρ | none => none
@[simp] theorem forE2_ok (tg : T → FS) (ds : List D) : forE2 tg F (some ds) ρ = forF tg F (ds.map T.sh) ρ := rfl
def forE (view : D → Option (List D)) (tg : T → FS) (F : FS) (o : Option (EO T)) (ρ : Env) : Option Out := runE o ρ fun t => forE2 tg F (view t.d) ρ
@[simp] theorem forE_ok (view : D → Option (List D)) (tg : T → FS) : forE view tg F (some (.ok t)) ρ = forE2 tg F (view t.d) ρ := rfl
@[simp] theorem forE_exc (view : D → Option (List D)) (tg : T → FS) (x : Exn) : forE view tg F (some (.exc x)) ρ = some (.exc x ρ) := rfl
@[simp] theorem forL_ap (tg : T → FS) : forL tg F f ρ = forE listD tg F (f ρ) ρ := rfl
@[simp] theorem forT_ap (tg : T → FS) : forT tg F f ρ = forE tupD tg F (f ρ) ρ := rfl
@[simp] theorem intT_int (k : Int) : intT (.sh (.int k)) = some k := rfl
noncomputable def forRE (tg : T → FS) (F : FS) (a b : Option Int) (ρ : Env) : Option Out := match a, b with | some i, some j => if small62 i && small62 j then forF tg F (rangeL i j) ρ else none | _, _ => none
theorem forRE_ok (tg : T → FS) {i j : Int} (hi : small62 i = true) (hj : small62 j = true) : forRE tg F (some i) (some j) ρ = forF tg F (rangeL i j) ρ := by simp [forRE, hi, hj]
@[simp] theorem forRE_ok' (tg : T → FS) {i j : Int} (h : small62 i = true ∧ small62 j = true) : forRE tg F (some i) (some j) ρ = forF tg F (rangeL i j) ρ := forRE_ok tg h.1 h.2
@[simp] theorem small0 : small62 0 = true := by simp [small62]
@[simp] theorem small1 : small62 1 = true := by simp [small62]
noncomputable def forR1E (tg : T → FS) (F : FS) (o : Option (EO T)) (ρ : Env) : Option Out := runE o ρ fun t => forRE tg F (some 0) (intT t) ρ
@[simp] theorem forR1E_ok (tg : T → FS) : forR1E tg F (some (.ok t)) ρ = forRE tg F (some 0) (intT t) ρ := rfl
@[simp] theorem forR1E_exc (tg : T → FS) (x : Exn) : forR1E tg F (some (.exc x)) ρ = some (.exc x ρ) := rfl
@[simp] theorem forR1_ap (tg : T → FS) : forR1 tg F f ρ = forR1E tg F (f ρ) ρ := by
  unfold forR1 forR1E
  congr
  funext t
  cases h : intT t with
  | none => rfl
  | some j => by_cases hj : small62 j = true <;> simp [forRE, hj]
noncomputable def forR2E2 (tg : T → FS) (F : FS) (t : T) (o : Option (EO T)) (ρ : Env) : Option Out := runE o ρ fun t' => forRE tg F (intT t) (intT t') ρ
@[simp] theorem forR2E2_ok (tg : T → FS) : forR2E2 tg F t (some (.ok u)) ρ = forRE tg F (intT t) (intT u) ρ := rfl
@[simp] theorem forR2E2_exc (tg : T → FS) (x : Exn) : forR2E2 tg F t (some (.exc x)) ρ = some (.exc x ρ) := rfl
noncomputable def forR2E (tg : T → FS) (F : FS) (o : Option (EO T)) (f' : FE) (ρ : Env) : Option Out := runE o ρ fun t => forR2E2 tg F t (f' ρ) ρ
@[simp] theorem forR2E_ok (tg : T → FS) : forR2E tg F (some (.ok t)) f' ρ = forR2E2 tg F t (f' ρ) ρ := rfl
@[simp] theorem forR2E_exc (tg : T → FS) (x : Exn) : forR2E tg F (some (.exc x)) f' ρ = some (.exc x ρ) := rfl
@[simp] theorem forR2_ap (tg : T → FS) : forR2 tg F f f' ρ = forR2E tg F (f ρ) f' ρ := rfl
@[simp] theorem strT_str (x : Str) : strT (.sh (.str x)) = some x := rfl
def forSE2 (tg : T → FS) (F : FS) (o : Option Str) (ρ : Env) : Option Out := match o with
  | some x => forF tg F (x.cps.toList.map fun c => T.sh (.str ⟨#[c]⟩)) ρ
  | none => none
@[simp] theorem forSE2_ok (tg : T → FS) (x : Str) : forSE2 tg F (some x) ρ = forF tg F (x.cps.toList.map fun c => T.sh (.str ⟨#[c]⟩)) ρ := rfl
def forSE (tg : T → FS) (F : FS) (o : Option (EO T)) (ρ : Env) : Option Out := runE o ρ fun t => forSE2 tg F (strT t) ρ
@[simp] theorem forSE_ok (tg : T → FS) : forSE tg F (some (.ok t)) ρ = forSE2 tg F (strT t) ρ := rfl
@[simp] theorem forSE_exc (tg : T → FS) (x : Exn) : forSE tg F (some (.exc x)) ρ = some (.exc x ρ) := rfl
@[simp] theorem forS_ap (tg : T → FS) : forS tg F f ρ = forSE tg F (f ρ) ρ := rfl
def callE (fn : FD) (o : Option (EO (List T))) : Option (EO T) := bindE o fun ts => fn (T.dl ts)
@[simp] theorem callE_ok (fn : FD) : callE fn (some (.ok ts)) = fn (T.dl ts) := rfl
@[simp] theorem callE_exc (fn : FD) (x : Exn) : callE fn (some (.exc x)) = some (.exc x) := rfl
@[simp] theorem callF_ap (fn : FD) : callF fn ga ρ = callE fn (ga ρ) := rfl
theorem fnF_ap (n : Nat) (ds : List D) : fnF n F ds = outE (F (entry n ds)) := rfl
@[simp] theorem entry_ap (n : Nat) (ds : List D) : entry n ds = ds.map (fun d => some (.sh d)) ++ List.replicate (n - ds.length) none := rfl
def compE2 (tg : T → FS) (c : FB) (f : FE) (ρ : Env) (o : Option (List D)) : Option (EO T) := liftO (o.bind fun ds => compZ tg c f ρ ds)
@[simp] theorem compE2_ok (tg : T → FS) (ds : List D) : compE2 tg c f ρ (some ds) = liftO (compZ tg c f ρ ds) := rfl
def compE1 (view : D → Option (List D)) (vs : List Nat) (tg : T → FS) (c : FB) (f : FE) (o : Option (EO T)) (ρ : Env) : Option (EO T) := bindE o fun t => compE2 tg c f (wipeE ρ vs) (view t.d)
@[simp] theorem compE1_ok (view : D → Option (List D)) (vs : List Nat) (tg : T → FS) : compE1 view vs tg c f (some (.ok t)) ρ = compE2 tg c f (wipeE ρ vs) (view t.d) := rfl
@[simp] theorem compE1_exc (view : D → Option (List D)) (vs : List Nat) (tg : T → FS) (x : Exn) : compE1 view vs tg c f (some (.exc x)) ρ = some (.exc x) := rfl
@[simp] theorem compE_ap (view : D → Option (List D)) (vs : List Nat) (tg : T → FS) : compE view vs tg c f fi ρ = compE1 view vs tg c f (fi ρ) ρ := rfl
noncomputable def compR3 (tg : T → FS) (c : FB) (f : FE) (ρ : Env) (a b : Option Int) : Option (EO T) := liftO (match a, b with | some i, some j => if small62 i && small62 j then compZ tg c f ρ (rangeD i j) else none | _, _ => none)
@[simp] theorem compR3_ok (tg : T → FS) {i j : Int} (h : small62 i = true ∧ small62 j = true) : compR3 tg c f ρ (some i) (some j) = liftO (compZ tg c f ρ (rangeD i j)) := by simp [compR3, h.1, h.2]
noncomputable def compR2 (vs : List Nat) (tg : T → FS) (c : FB) (f : FE) (t : T) (o : Option (EO T)) (ρ : Env) : Option (EO T) := bindE o fun t' => compR3 tg c f (wipeE ρ vs) (intT t) (intT t')
@[simp] theorem compR2_ok (vs : List Nat) (tg : T → FS) : compR2 vs tg c f t (some (.ok u)) ρ = compR3 tg c f (wipeE ρ vs) (intT t) (intT u) := rfl
@[simp] theorem compR2_exc (vs : List Nat) (tg : T → FS) (x : Exn) : compR2 vs tg c f t (some (.exc x)) ρ = some (.exc x) := rfl
noncomputable def compR1 (vs : List Nat) (tg : T → FS) (c : FB) (f : FE) (o : Option (EO T)) (fb : FE) (ρ : Env) : Option (EO T) := bindE o fun t => compR2 vs tg c f t (fb ρ) ρ
@[simp] theorem compR1_ok (vs : List Nat) (tg : T → FS) : compR1 vs tg c f (some (.ok t)) fb ρ = compR2 vs tg c f t (fb ρ) ρ := rfl
@[simp] theorem compR1_exc (vs : List Nat) (tg : T → FS) (x : Exn) : compR1 vs tg c f (some (.exc x)) fb ρ = some (.exc x) := rfl
@[simp] theorem compR_ap (vs : List Nat) (tg : T → FS) : compR vs tg c f fa fb ρ = compR1 vs tg c f (fa ρ) fb ρ := rfl
@[simp] theorem wipeE_nil : wipeE ρ [] = ρ := rfl
@[simp] theorem wipeE_cons (v : Nat) (vs : List Nat) : wipeE ρ (v :: vs) = (wipeE ρ vs).set v none := rfl
def frzE (o : Option (EO T)) : Option (EO T) := bindE o fun t => some (.ok (.sh t.d))
@[simp] theorem frzE_ok : frzE (some (.ok t)) = some (.ok (.sh t.d)) := rfl
@[simp] theorem frzE_exc (x : Exn) : frzE (some (.exc x)) = some (.exc x) := rfl
@[simp] theorem frzV_ap : frzV f ρ = frzE (f ρ) := rfl
@[simp] theorem frzF_ap : frzF i F ρ = F (frzSlot i ρ) := rfl
def frzSE (i : Nat) (o : Option (Option T)) (ρ : Env) : Env := match o with | some (some t) => ρ.set i (some (.sh t.d)) | _ => ρ
@[simp] theorem frzSE_ok : frzSE i (some (some t)) ρ = ρ.set i (some (.sh t.d)) := rfl
@[simp] theorem frzSlot_ap : frzSlot i ρ = frzSE i ρ[i]? ρ := rfl
@[simp] theorem breakF_ap : breakF ρ = some (.bk ρ) := rfl
@[simp] theorem contF_ap : contF ρ = some (.ct ρ) := rfl
def augE3 (i : Nat) (o : Option T) (ρ : Env) : Option Out := match o with | some z => some (.nx (ρ.set i (some z))) | none => none
@[simp] theorem augE3_ok : augE3 i (some t) ρ = some (.nx (ρ.set i (some t))) := rfl
def augE2 (i : Nat) (g : T → T → Option T) (t : T) (o : Option (EO T)) (ρ : Env) : Option Out := runE o ρ fun u => augE3 i (g t u) ρ
@[simp] theorem augE2_ok (g : T → T → Option T) : augE2 i g t (some (.ok u)) ρ = augE3 i (g t u) ρ := rfl
@[simp] theorem augE2_exc (g : T → T → Option T) (x : Exn) : augE2 i g t (some (.exc x)) ρ = some (.exc x ρ) := rfl
def augE1 (i : Nat) (g : T → T → Option T) (o : Option (EO T)) (f : FE) (ρ : Env) : Option Out := runE o ρ fun t => augE2 i g t (f ρ) ρ
@[simp] theorem augE1_ok (g : T → T → Option T) : augE1 i g (some (.ok t)) f ρ = augE2 i g t (f ρ) ρ := rfl
@[simp] theorem augF_ap (g : T → T → Option T) : augF i g f ρ = augE1 i g (slotE ρ[i]?) f ρ := rfl
def ofEE (o : Option (EO T)) (ρ : Env) : Option EM := match o with
  | none => none
  | some (.ok t) => some (.ok t ρ)
  | some (.exc x) => some (.exc x ρ)
@[simp] theorem ofEE_ok : ofEE (some (.ok t)) ρ = some (.ok t ρ) := rfl
@[simp] theorem ofEE_exc (x : Exn) : ofEE (some (.exc x)) ρ = some (.exc x ρ) := rfl
@[simp] theorem ofE_ap : ofE f ρ = ofEE (f ρ) ρ := rfl
def mvEE (i : Nat) (o : Option (Option T)) (ρ : Env) : Option EM := match o with | some (some t) => some (.ok t (ρ.set i none)) | _ => none
@[simp] theorem mvEE_ok : mvEE i (some (some t)) ρ = some (.ok t (ρ.set i none)) := rfl
@[simp] theorem mvE_ap : mvE i ρ = mvEE i ρ[i]? ρ := rfl
@[simp] theorem nilM_ap : nilM ρ = some (.ok [] ρ) := rfl
def consM2 (t : T) (o : Option EMs) : Option EMs := match o with
    | some (.ok ts ρ2) => some (.ok (t :: ts) ρ2)
    | some (.exc x ρ2) => some (.exc x ρ2)
    | none => none
@[simp] theorem consM2_ok : consM2 t (some (.ok ts ρ)) = some (.ok (t :: ts) ρ) := rfl
@[simp] theorem consM2_exc (x : Exn) : consM2 t (some (.exc x ρ)) = some (.exc x ρ) := rfl
def consM1 (o : Option EM) (ms : FMs) : Option EMs := match o with
  | some (.ok t ρ1) => consM2 t (ms ρ1)
  | some (.exc x ρ1) => some (.exc x ρ1)
  | none => none
@[simp] theorem consM1_ok (ms : FMs) : consM1 (some (.ok t ρ)) ms = consM2 t (ms ρ) := rfl
@[simp] theorem consM1_exc (ms : FMs) (x : Exn) : consM1 (some (.exc x ρ)) ms = some (.exc x ρ) := rfl
@[simp] theorem consM_ap (m : FM) (ms : FMs) : consM m ms ρ = consM1 (m ρ) ms := rfl
def tupM1 (o : Option EMs) : Option EM := match o with
  | some (.ok ts ρ') => if ts.length ≤ sizeLine then some (.ok (.tup ts) ρ') else none
  | some (.exc x ρ') => some (.exc x ρ')
  | none => none
theorem tupM1_ok (h : ts.length ≤ sizeLine) : tupM1 (some (.ok ts ρ)) = some (.ok (.tup ts) ρ) := by simp [tupM1, h]
@[simp] theorem tupM1_ok' (h : ts.length ≤ 1000000) : tupM1 (some (.ok ts ρ)) = some (.ok (.tup ts) ρ) := tupM1_ok (by rw [sizeLine_eq]; omega)
@[simp] theorem tupM1_exc (x : Exn) : tupM1 (some (.exc x ρ)) = some (.exc x ρ) := rfl
@[simp] theorem tupM_ap (ms : FMs) : tupM ms ρ = tupM1 (ms ρ) := rfl
def lstM1 (o : Option EMs) : Option EM := match o with
  | some (.ok ts ρ') => if ts.length ≤ sizeLine then some (.ok (.lst ts) ρ') else none
  | some (.exc x ρ') => some (.exc x ρ')
  | none => none
theorem lstM1_ok (h : ts.length ≤ sizeLine) : lstM1 (some (.ok ts ρ)) = some (.ok (.lst ts) ρ) := by simp [lstM1, h]
@[simp] theorem lstM1_ok' (h : ts.length ≤ 1000000) : lstM1 (some (.ok ts ρ)) = some (.ok (.lst ts) ρ) := lstM1_ok (by rw [sizeLine_eq]; omega)
@[simp] theorem lstM1_exc (x : Exn) : lstM1 (some (.exc x ρ)) = some (.exc x ρ) := rfl
@[simp] theorem lstM_ap (ms : FMs) : lstM ms ρ = lstM1 (ms ρ) := rfl
def retM1 (o : Option EM) : Option Out := runM o fun t ρ' => some (.rt t ρ')
@[simp] theorem retM1_ok : retM1 (some (.ok t ρ)) = some (.rt t ρ) := rfl
@[simp] theorem retM1_exc (x : Exn) : retM1 (some (.exc x ρ)) = some (.exc x ρ) := rfl
@[simp] theorem retM_ap (m : FM) : retM m ρ = retM1 (m ρ) := rfl
def setM1 (i : Nat) (o : Option EM) : Option Out := runM o fun t ρ' => some (.nx (ρ'.set i (some t)))
@[simp] theorem setM1_ok : setM1 i (some (.ok t ρ)) = some (.nx (ρ.set i (some t))) := rfl
@[simp] theorem setM1_exc (x : Exn) : setM1 i (some (.exc x ρ)) = some (.exc x ρ) := rfl
@[simp] theorem setM_ap (m : FM) : setM i m ρ = setM1 i (m ρ) := rfl
/-- the list at a place gets t -/
def pushE (i : Nat) (π : List Step) (t : T) (o : Option T) (ρ : Env) : Option Out := match o with
    | some (.lst l) => if l.length < sizeLine then some (.nx (putE i π (.lst (l ++ [t])) ρ)) else none
    | _ => none
theorem pushE_ok {π : List Step} (h : ts.length < sizeLine) : pushE i π t (some (.lst ts)) ρ = some (.nx (putE i π (.lst (ts ++ [t])) ρ)) := by simp [pushE, h]
@[simp] theorem pushE_ok' {π : List Step} (h : ts.length < sizeLine) : pushE i π t (some (.lst ts)) ρ = some (.nx (putE i π (.lst (ts ++ [t])) ρ)) := pushE_ok h
def appM3 (i : Nat) (π : List Step) (o : Option EM) : Option Out := runM o fun t ρ' => pushE i π t (atE i π ρ') ρ'
@[simp] theorem appM3_ok {π : List Step} : appM3 i π (some (.ok t ρ)) = pushE i π t (atE i π ρ) ρ := rfl
@[simp] theorem appM3_exc {π : List Step} (x : Exn) : appM3 i π (some (.exc x ρ)) = some (.exc x ρ) := rfl
def appM2 (i : Nat) (π : List Step) (o : Option T) (m : FM) (ρ : Env) : Option Out := match o with
  | some (.lst _) => appM3 i π (m ρ)
  | _ => none
@[simp] theorem appM2_ok {π : List Step} (m : FM) : appM2 i π (some (.lst ts)) m ρ = appM3 i π (m ρ) := rfl
def appM1 (i : Nat) (o : Option (EO (List Step))) (m : FM) (ρ : Env) : Option Out := runE o ρ fun π => appM2 i π (atE i π ρ) m ρ
@[simp] theorem appM1_ok {π : List Step} (m : FM) : appM1 i (some (.ok π)) m ρ = appM2 i π (atE i π ρ) m ρ := rfl
@[simp] theorem appendM_ap (p : FP) (m : FM) : appendM i p m ρ = appM1 i (p ρ) m ρ := rfl
def appE3 (i : Nat) (π : List Step) (l : List T) (o : Option (EO T)) (ρ : Env) : Option Out := runE o ρ fun t => if l.length < sizeLine then some (.nx (putE i π (.lst (l ++ [t])) ρ)) else none
@[simp] theorem appE3_ok {π : List Step} (h : ts.length < sizeLine) : appE3 i π ts (some (.ok t)) ρ = some (.nx (putE i π (.lst (ts ++ [t])) ρ)) := if_pos h
@[simp] theorem appE3_exc {π : List Step} (x : Exn) : appE3 i π ts (some (.exc x)) ρ = some (.exc x ρ) := rfl
def appE2 (i : Nat) (π : List Step) (o : Option T) (f : FE) (ρ : Env) : Option Out := match o with
  | some (.lst l) => appE3 i π l (f ρ) ρ
  | _ => none
@[simp] theorem appE2_ok {π : List Step} : appE2 i π (some (.lst ts)) f ρ = appE3 i π ts (f ρ) ρ := rfl
def appE1 (i : Nat) (o : Option (EO (List Step))) (f : FE) (ρ : Env) : Option Out := runE o ρ fun π => appE2 i π (atE i π ρ) f ρ
@[simp] theorem appE1_ok {π : List Step} : appE1 i (some (.ok π)) f ρ = appE2 i π (atE i π ρ) f ρ := rfl
@[simp] theorem appendF_ap (p : FP) : appendF i p f ρ = appE1 i (p ρ) f ρ := rfl
def extE4 (i : Nat) (π : List Step) (l : List T) (d : D) (ρ : Env) : Option Out := match d with
    | .lst ds => if l.length + ds.length ≤ sizeLine then some (.nx (putE i π (.lst (l ++ ds.map T.sh)) ρ)) else none
    | _ => none
@[simp] theorem extE4_ok {π : List Step} {ds : List D} (h : ts.length + ds.length ≤ sizeLine) : extE4 i π ts (.lst ds) ρ = some (.nx (putE i π (.lst (ts ++ ds.map T.sh)) ρ)) := if_pos h
def extE3 (i : Nat) (π : List Step) (l : List T) (o : Option (EO T)) (ρ : Env) : Option Out := runE o ρ fun t => extE4 i π l t.d ρ
@[simp] theorem extE3_ok {π : List Step} : extE3 i π ts (some (.ok t)) ρ = extE4 i π ts t.d ρ := rfl
@[simp] theorem extE3_exc {π : List Step} (x : Exn) : extE3 i π ts (some (.exc x)) ρ = some (.exc x ρ) := rfl
def extE2 (i : Nat) (π : List Step) (o : Option T) (f : FE) (ρ : Env) : Option Out := match o with
  | some (.lst l) => extE3 i π l (f ρ) ρ
  | _ => none
@[simp] theorem extE2_ok {π : List Step} : extE2 i π (some (.lst ts)) f ρ = extE3 i π ts (f ρ) ρ := rfl
def extE1 (i : Nat) (o : Option (EO (List Step))) (f : FE) (ρ : Env) : Option Out := runE o ρ fun π => extE2 i π (atE i π ρ) f ρ
@[simp] theorem extE1_ok {π : List Step} : extE1 i (some (.ok π)) f ρ = extE2 i π (atE i π ρ) f ρ := rfl
@[simp] theorem extendF_ap (p : FP) : extendF i p f ρ = extE1 i (p ρ) f ρ := rfl
def hereE (o : Option (Option T)) : Option (EO (List Step)) := match o with | some (some _) => some (.ok []) | _ => none
@[simp] theorem hereE_ok : hereE (some (some t)) = some (.ok []) := rfl
@[simp] theorem hereP_ap : hereP i ρ = hereE ρ[i]? := rfl
def atN (o : Option (Option T)) : Option T := match o with | some (some t) => some t | _ => none
@[simp] theorem atN_ok : atN (some (some t)) = some t := rfl
@[simp] theorem atE_nil : atE i [] ρ = atN ρ[i]? := by unfold atE atN; split <;> simp_all [T.at]
def putN (i : Nat) (u : T) (o : Option (Option T)) (ρ : Env) : Env := match o with | some (some _) => ρ.set i (some u) | _ => ρ
@[simp] theorem putN_ok : putN i u (some (some t)) ρ = ρ.set i (some u) := rfl
@[simp] theorem putE_nil : putE i [] u ρ = putN i u ρ[i]? ρ := by unfold putE putN; split <;> simp_all [T.put]
def tupMv1 (o : Option (EO T)) : Option (EO T) := bindE o fun t => match t with | .lst ts => some (.ok (.tup ts)) | _ => none
@[simp] theorem tupMv1_ok : tupMv1 (some (.ok (.lst ts))) = some (.ok (.tup ts)) := rfl
@[simp] theorem tupMv1_exc (x : Exn) : tupMv1 (some (.exc x)) = some (.exc x) := rfl
@[simp] theorem tupMvE_ap : tupMvE f ρ = tupMv1 (f ρ) := rfl
def fmt2 (o : Option Str) : Option (EO T) := liftO (o.map fun y => .sh (.str y))
@[simp] theorem fmt2_ok (x : Str) : fmt2 (some x) = some (.ok (.sh (.str x))) := rfl
def fmt1 (o : Option (EO T)) : Option (EO T) := bindE o fun t => fmt2 (fmtT t)
@[simp] theorem fmt1_ok : fmt1 (some (.ok t)) = fmt2 (fmtT t) := rfl
@[simp] theorem fmt1_exc (x : Exn) : fmt1 (some (.exc x)) = some (.exc x) := rfl
@[simp] theorem fmtF_ap : fmtF f ρ = fmt1 (f ρ) := rfl
@[simp] theorem joinF_nil (acc : Str) : joinF [] acc ρ = some (.ok (.sh (.str acc))) := rfl
def join2 (fs : List FE) (acc : Str) (o : Option Str) (ρ : Env) : Option (EO T) := match o with
    | some y => if (acc ++ y).length ≤ sizeLine then joinF fs (acc ++ y) ρ else none
    | none => none
@[simp] theorem join2_ok {fs : List FE} {acc y : Str} (h : (acc ++ y).length ≤ sizeLine) : join2 fs acc (some y) ρ = joinF fs (acc ++ y) ρ := if_pos h
def join1 (fs : List FE) (acc : Str) (o : Option (EO T)) (ρ : Env) : Option (EO T) := bindE o fun t => join2 fs acc (strT t) ρ
@[simp] theorem join1_ok (fs : List FE) (acc : Str) : join1 fs acc (some (.ok t)) ρ = join2 fs acc (strT t) ρ := rfl
@[simp] theorem join1_exc (fs : List FE) (acc : Str) (x : Exn) : join1 fs acc (some (.exc x)) ρ = some (.exc x) := rfl
@[simp] theorem joinF_cons (fs : List FE) (acc : Str) : joinF (f :: fs) acc ρ = join1 fs acc (f ρ) ρ := rfl
def m1E3 (g : Str → T → Option T) (a : Str) (o : Option (EO T)) : Option (EO T) := bindE o fun u => liftO (g a u)
@[simp] theorem m1E3_ok (g : Str → T → Option T) (a : Str) : m1E3 g a (some (.ok u)) = liftO (g a u) := rfl
@[simp] theorem m1E3_exc (g : Str → T → Option T) (a : Str) (x : Exn) : m1E3 g a (some (.exc x)) = some (.exc x) := rfl
def m1E2 (g : Str → T → Option T) (o : Option Str) (fe : FE) (ρ : Env) : Option (EO T) := match o with
  | some a => m1E3 g a (fe ρ)
  | none => none
@[simp] theorem m1E2_ok (g : Str → T → Option T) (a : Str) : m1E2 g (some a) fe ρ = m1E3 g a (fe ρ) := rfl
def m1E1 (g : Str → T → Option T) (o : Option (EO T)) (fe : FE) (ρ : Env) : Option (EO T) := bindE o fun t => m1E2 g (strT t) fe ρ
@[simp] theorem m1E1_ok (g : Str → T → Option T) : m1E1 g (some (.ok t)) fe ρ = m1E2 g (strT t) fe ρ := rfl
@[simp] theorem m1E1_exc (g : Str → T → Option T) (x : Exn) : m1E1 g (some (.exc x)) fe ρ = some (.exc x) := rfl
@[simp] theorem m1F_ap (g : Str → T → Option T) : m1F g fa fe ρ = m1E1 g (fa ρ) fe ρ := rfl
def part1 (o : Option (EO T)) : Option (EO (Option Int)) := bindE o fun t => liftO ((intT t).map some)
@[simp] theorem part1_ok (k : Int) : part1 (some (.ok (.sh (.int k)))) = some (.ok (some k)) := rfl
@[simp] theorem part1_exc (x : Exn) : part1 (some (.exc x)) = some (.exc x) := rfl
@[simp] theorem partF_ap : partF f ρ = part1 (f ρ) := rfl
def sl3 (g : T → Option Int → Option Int → Option T) (t : T) (lo : Option Int) (o : Option (EO (Option Int))) : Option (EO T) := bindE o fun hi => liftO (g t lo hi)
@[simp] theorem sl3_ok (g : T → Option Int → Option Int → Option T) (lo hi : Option Int) : sl3 g t lo (some (.ok hi)) = liftO (g t lo hi) := rfl
def sl2 (g : T → Option Int → Option Int → Option T) (t : T) (o : Option (EO (Option Int))) (fh : FO) (ρ : Env) : Option (EO T) := bindE o fun lo => sl3 g t lo (fh ρ)
@[simp] theorem sl2_ok (g : T → Option Int → Option Int → Option T) (lo : Option Int) (fh : FO) : sl2 g t (some (.ok lo)) fh ρ = sl3 g t lo (fh ρ) := rfl
def sl1 (g : T → Option Int → Option Int → Option T) (o : Option (EO T)) (fl fh : FO) (ρ : Env) : Option (EO T) := bindE o fun t => sl2 g t (fl ρ) fh ρ
@[simp] theorem sl1_ok (g : T → Option Int → Option Int → Option T) (fl fh : FO) : sl1 g (some (.ok t)) fl fh ρ = sl2 g t (fl ρ) fh ρ := rfl
@[simp] theorem slF_ap (g : T → Option Int → Option Int → Option T) (fl fh : FO) : slF g fa fl fh ρ = sl1 g (fa ρ) fl fh ρ := rfl
def isi2 (n : String) (o : Option String) : Option (EO T) := liftO (o.map fun m => .sh (.bl (isB m n)))
@[simp] theorem isi2_ok (n m : String) : isi2 n (some m) = some (.ok (.sh (.bl (isB m n)))) := rfl
def isi1 (n : String) (o : Option (EO T)) : Option (EO T) := bindE o fun t => isi2 n (tyD t.d)
@[simp] theorem isi1_ok (n : String) : isi1 n (some (.ok t)) = isi2 n (tyD t.d) := rfl
@[simp] theorem isi1_exc (n : String) (x : Exn) : isi1 n (some (.exc x)) = some (.exc x) := rfl
@[simp] theorem isiF_ap (n : String) : isiF n f ρ = isi1 n (f ρ) := rfl
def bor2 (o : Option (EO T)) : Option (EO T) := match o with
  | some (.ok t) => liftO (scT (shD t))
  | _ => none
@[simp] theorem bor2_ok (d : D) : bor2 (some (.ok (.sh d))) = liftO (scT (some d)) := rfl
theorem borrowE_ap : borrowE i f ρ = if onlyB i 0 ρ then bor2 (f (frzSlot i ρ)) else none := rfl
@[simp] theorem borrowE_ok (h : onlyB i 0 ρ = true) : borrowE i f ρ = bor2 (f (frzSlot i ρ)) := by rw [borrowE_ap, if_pos h]
def clob2 (i : Nat) (ok : T → Bool) (o : Option (Option T)) (ρ : Env) : Option Out := match o with | some (some t) => if ok t then some (.nx (ρ.set i none)) else none | _ => none
@[simp] theorem clob2_ok {ok : T → Bool} (h : ok t = true) : clob2 i ok (some (some t)) ρ = some (.nx (ρ.set i none)) := by simp [clob2, h]
@[simp] theorem clobF_ap (ok : T → Bool) : clobF i ok ρ = clob2 i ok ρ[i]? ρ := rfl
@[simp] theorem onlyB_nil : onlyB i j [] = true := rfl
@[simp] theorem onlyB_none : onlyB i j (none :: ρ) = onlyB i (j + 1) ρ := rfl
@[simp] theorem onlyB_sh : onlyB i j (some (.sh d) :: ρ) = onlyB i (j + 1) ρ := rfl
@[simp] theorem onlyB_tup : onlyB i j (some (.tup ts) :: ρ) = (decide (j = i) && onlyB i (j + 1) ρ) := rfl
@[simp] theorem onlyB_lst : onlyB i j (some (.lst ts) :: ρ) = (decide (j = i) && onlyB i (j + 1) ρ) := rfl
@[simp] theorem shD_sh : shD (.sh d) = some d := rfl
@[simp] theorem vop_ap (g : D → D → Option D) : vop g t u = scT (g t.d u.d) := Eq.trans rfl rfl
@[simp] theorem vun_ap (g : D → Option D) : vun g t = scT (g t.d) := Eq.trans rfl rfl
@[simp] theorem vcall_ap (g : List D → Option D) : vcall g ts = scT (g (T.dl ts)) := Eq.trans rfl rfl
@[simp] theorem scT_int (k : Int) : scT (some (.int k)) = some (.sh (.int k)) := Eq.trans rfl rfl
@[simp] theorem scT_bl (k : Bool) : scT (some (.bl k)) = some (.sh (.bl k)) := Eq.trans rfl rfl
@[simp] theorem scT_str (k : Str) : scT (some (.str k)) = some (.sh (.str k)) := Eq.trans rfl rfl
@[simp] theorem scT_none : scT none = none := Eq.trans rfl rfl
@[simp] theorem ii_int (g : Int → Int → Option D) (a b : Int) : ii g (.int a) (.int b) = g a b := Eq.trans rfl rfl
@[simp] theorem subD_int (a b : Int) : subD (.int a) (.int b) = some (.int (a - b)) := Eq.trans rfl rfl
@[simp] theorem addV_int (a b : Int) : addV (.int a) (.int b) = some (.int (a + b)) := Eq.trans rfl rfl
@[simp] theorem addV_str (a b : Str) : addV (.str a) (.str b) = if a.length + b.length ≤ sizeLine then some (.str (a ++ b)) else none := Eq.trans rfl rfl
@[simp] theorem modD_int (a b : Int) : modD (.int a) (.int b) = if 0 < b then some (.int (a % b)) else none := Eq.trans rfl rfl
@[simp] theorem fdivD_int (a b : Int) : fdivD (.int a) (.int b) = if 0 < b ∧ b < 1073741824 then some (.int (a / b)) else none := Eq.trans rfl rfl
@[simp] theorem ltD_int (a b : Int) : ltD (.int a) (.int b) = some (.bl (decide (a < b))) := Eq.trans rfl rfl
@[simp] theorem leD_int (a b : Int) : leD (.int a) (.int b) = some (.bl (decide (a ≤ b))) := Eq.trans rfl rfl
@[simp] theorem gtD_int (a b : Int) : gtD (.int a) (.int b) = some (.bl (decide (b < a))) := Eq.trans rfl rfl
@[simp] theorem geD_int (a b : Int) : geD (.int a) (.int b) = some (.bl (decide (b ≤ a))) := Eq.trans rfl rfl
@[simp] theorem powD_int (a b : Int) : powD (.int a) (.int b) = if 0 ≤ b ∧ b ≤ 1000000 ∧ a.natAbs < 2 ^ 64 then some (.int (a ^ b.toNat)) else none := Eq.trans rfl rfl
@[simp] theorem negD_int (a : Int) : negD (.int a) = some (.int (-a)) := Eq.trans rfl rfl
@[simp] theorem mulV_int (a b : Int) : mulV (.int a) (.int b) = if (-(2 ^ 64) < a ∧ a < 2 ^ 64) ∨ (-(2 ^ 64) < b ∧ b < 2 ^ 64) then some (.int (a * b)) else none := Eq.trans rfl rfl
@[simp] theorem eqD_int (a b : Int) : eqD (.int a) (.int b) = some (.bl (decide (a = b))) := Eq.trans rfl rfl
@[simp] theorem eqD_str (a b : Str) : eqD (.str a) (.str b) = some (.bl (decide (a = b))) := Eq.trans rfl rfl
@[simp] theorem neD_int (a b : Int) : neD (.int a) (.int b) = some (.bl (!decide (a = b))) := Eq.trans rfl rfl
@[simp] theorem neD_str (a b : Str) : neD (.str a) (.str b) = some (.bl (!decide (a = b))) := Eq.trans rfl rfl
@[simp] theorem lenD_str (x : Str) : lenD [.str x] = if x.length ≤ sizeLine then some (.int x.length) else none := Eq.trans rfl rfl
@[simp] theorem lenD_lst (l : List D) : lenD [.lst l] = some (.int l.length) := Eq.trans rfl rfl
@[simp] theorem lenD_frl (l : List D) : lenD [.frl l] = some (.int l.length) := Eq.trans rfl rfl
@[simp] theorem lenD_tup (l : List D) : lenD [.tup l] = some (.int l.length) := Eq.trans rfl rfl
@[simp] theorem absD_int (a : Int) : absD [.int a] = some (.int (if a < 0 then -a else a)) := Eq.trans rfl rfl
@[simp] theorem min2D_int (a b : Int) : min2D [.int a, .int b] = some (.int (if b < a then b else a)) := Eq.trans rfl rfl
@[simp] theorem max2D_int (a b : Int) : max2D [.int a, .int b] = some (.int (if b > a then b else a)) := Eq.trans rfl rfl
@[simp] theorem strD_int (a : Int) : strD [.int a] = if a.natAbs.log2 < 1920 then some (.str (toString a)) else none := Eq.trans rfl rfl
@[simp] theorem strD_str (a : Str) : strD [.str a] = some (.str a) := Eq.trans rfl rfl
@[simp] theorem intD1_int (a : Int) : intD1 [.int a] = some (.int a) := Eq.trans rfl rfl
@[simp] theorem intD1_bl (a : Bool) : intD1 [.bl a] = some (.int (if a then 1 else 0)) := Eq.trans rfl rfl
@[simp] theorem intD1_str (a : Str) : intD1 [.str a] = if a.length ≤ 640 then (PySem.intText? a).map .int else none := Eq.trans rfl rfl
@[simp] theorem addT_int (a b : Int) : addT (.sh (.int a)) (.sh (.int b)) = some (.sh (.int (a + b))) := Eq.trans rfl rfl
theorem addT_str (a b : Str) (h : a.length + b.length ≤ sizeLine) : addT (.sh (.str a)) (.sh (.str b)) = some (.sh (.str (a ++ b))) := by simp [addT, h]
theorem mulT_int (a b : Int) (h : (-(2 ^ 64) < a ∧ a < 2 ^ 64) ∨ (-(2 ^ 64) < b ∧ b < 2 ^ 64)) : mulT (.sh (.int a)) (.sh (.int b)) = some (.sh (.int (a * b))) := by
  simp only [mulT, vop_ap, d_sh, mulV_int, if_pos h, scT_int]
theorem shl_map : ∀ l : List D, T.shl (l.map T.sh) = some l
  | [] => rfl
  | d :: l => by simp [T.shl, shl_map l]
/-- a list, frozen or not, of shared things -/
inductive IsL : T → List D → Prop where
  | sh (l : List D) : IsL (.sh (.lst l)) l
  | ow (l : List D) : IsL (.lst (l.map T.sh)) l
theorem IsL.view {l : List D} (h : IsL t l) : viewL t = some l := by cases h <;> simp [viewL, shl_map]
theorem IsL.viewS {l : List D} (h : IsL t l) : viewS t = some l := by cases h <;> simp [DV.viewS, shl_map]
theorem IsL.dd {l : List D} (h : IsL t l) : t.d = .lst l := by cases h <;> simp
@[simp] theorem viewL_sh (l : List D) : viewL (.sh (.lst l)) = some l := Eq.trans rfl rfl
@[simp] theorem viewL_lstS (l : List D) : viewL (lstS l) = some l := shl_map l
@[simp] theorem viewL_map (l : List D) : viewL (.lst (l.map T.sh)) = some l := shl_map l
@[simp] theorem viewL_comp {γ : Type} (f : γ → D) (l : List γ) : viewL (.lst (l.map (T.sh ∘ f))) = some (l.map f) := by
  have := viewL_map (l.map f)
  rwa [List.map_map] at this
theorem addT_lst {u : T} {a b : List D} (h1 : viewL t = some a) (h2 : viewL u = some b) (h : a.length + b.length ≤ sizeLine) : addT t u = some (lstS (a ++ b)) := by
  have e1 : vop addV t u = none := by
    rcases t with ⟨_ | _ | _ | _ | _ | _⟩ | _ | _ | _ | _ | _ <;> simp [viewL] at h1 <;> simp [vop, addV]
  unfold addT
  rw [e1]
  simp only [catL, h1, h2, if_pos h]
theorem addT_tup {a b : List D} (h : a.length + b.length ≤ sizeLine) : addT (.sh (.tup a)) (.sh (.tup b)) = some (.sh (.tup (a ++ b))) := by
  simp [addT, addV, catL, viewL, catT, shTup, h]
theorem mulT_lst {a : List D} {k : Int} (h1 : viewL t = some a) (h : -(2 ^ 63) ≤ k ∧ k < 2 ^ 63 ∧ a.length * k.toNat ≤ sizeLine) : mulT t (.sh (.int k)) = some (lstS (List.replicate k.toNat a).flatten) := by
  have e1 : vop mulV t (.sh (.int k)) = none := by
    rcases t with ⟨_ | _ | _ | _ | _ | _⟩ | _ | _ | _ | _ | _ <;> simp [viewL] at h1 <;> simp [vop, mulV, ii]
  simp only [mulT, e1, repLT, h1, intT_int, if_pos h]
theorem mulT_tup {a : List D} {k : Int} (h : 1 ≤ k ∧ k ≤ 1000) (ha : a.length ≤ 1000) : mulT (.sh (.tup a)) (.sh (.int k)) = some (.sh (.tup (List.replicate k.toNat a).flatten)) := by
  have e1 : vop mulV (.sh (.tup a)) (.sh (.int k)) = none := by simp [vop, mulV, ii]
  simp only [mulT, e1, repLT, viewL, repTT, shTup, intT_int]
  by_cases h2 : 2 ≤ k ∧ k ≤ 1000 ∧ a.length ≤ 1000 ∧ 1 ≤ a.length
  · rw [if_pos h2]
  · rw [if_neg h2]
    simp only [repT1, shTup, intT_int]
    by_cases h3 : a = []
    · subst h3
      rw [if_pos ⟨.inl rfl, by omega, by omega⟩]
      have : (List.replicate k.toNat ([] : List D)).flatten = [] := by simp
      rw [this]
    · have : k = 1 := by
        have : 1 ≤ a.length := by cases a with | nil => exact absurd rfl h3 | cons _ _ => simp
        omega
      subst this
      rw [if_pos ⟨.inr rfl, by omega, by omega⟩]
      simp

/-! ### walks -/
theorem forF_inv {tg : T → FS} {B : FS} (I : List T → Env → Prop)
    (step : ∀ t ts ρ, I (t :: ts) ρ → ∃ ρ1 ρ2, tg t ρ = some (.nx ρ1) ∧ (B ρ1 = some (.nx ρ2) ∨ B ρ1 = some (.ct ρ2)) ∧ I ts ρ2) : ∀ (ts : List T) (ρ : Env), I ts ρ → ∃ ρ', forF tg B ts ρ = some (.nx ρ') ∧ I [] ρ'
  | [], ρ, h => ⟨ρ, rfl, h⟩
  | t :: ts, ρ, h => by
    obtain ⟨ρ1, ρ2, e1, e2, h2⟩ := step t ts ρ h
    obtain ⟨ρ', e3, h3⟩ := forF_inv I step ts ρ2 h2
    refine ⟨ρ', ?_, h3⟩
    rcases e2 with e2 | e2 <;> simp only [forF, e1, e2, e3]
theorem compL_map {tg : T → FS} {f : FE} {g : D → T} : ∀ {ds : List D}, (∀ d ∈ ds, ∃ ρ1, tg (.sh d) ρ = some (.nx ρ1) ∧ f ρ1 = some (.ok (g d))) → compL tg yesB f ρ ds = some (ds.map g)
  | [], _ => rfl
  | d :: ds, h => by
    obtain ⟨ρ1, e1, e2⟩ := h d (by simp)
    have ih := compL_map (ds := ds) fun x hx => h x (List.mem_cons_of_mem _ hx)
    simp only [compL, e1, yesB, e2, ih]
    rfl
theorem compZ_map {tg : T → FS} {f : FE} {g : D → T} {ds : List D} (hl : ds.length < sizeLine) (h : ∀ d ∈ ds, ∃ ρ1, tg (.sh d) ρ = some (.nx ρ1) ∧ f ρ1 = some (.ok (g d))) : compZ tg yesB f ρ ds = some (.lst (ds.map g)) := by
  simp only [compZ, compL_map h, Option.bind_some, List.length_map, if_pos hl]
/-- answers that are not told by a function -/
theorem compL_ex {tg : T → FS} {f : FE} {R : D → T → Prop} : ∀ {ds : List D}, (∀ d ∈ ds, ∃ ρ1 t, tg (.sh d) ρ = some (.nx ρ1) ∧ f ρ1 = some (.ok t) ∧ R d t) → ∃ ts, compL tg yesB f ρ ds = some ts ∧ ts.length = ds.length ∧ ∀ (i : Nat) (d : D) (t : T), ds[i]? = some d → ts[i]? = some t → R d t
  | [], _ => ⟨[], rfl, rfl, by simp⟩
  | d :: ds, h => by
    obtain ⟨ρ1, t, e1, e2, r⟩ := h d (by simp)
    obtain ⟨ts, e3, el, k⟩ := compL_ex (ds := ds) fun x hx => h x (List.mem_cons_of_mem _ hx)
    refine ⟨t :: ts, by simp only [compL, e1, yesB, e2, e3]; rfl, by simp [el], fun i a b ha hb => ?_⟩
    cases i with
    | zero => simp at ha hb; subst ha hb; exact r
    | succ i => exact k i a b (by simpa using ha) (by simpa using hb)
end
end DV

namespace DV
open PySem PySem.Spec PyProof.Rows L2

/-! ## texts -/
theorem str_ext {a b : Str} (h : a.cps.toList = b.cps.toList) : a = b := PySem.Str.ext' (Array.toList_inj.mp h)
theorem app_cps (a b : Str) : (a ++ b).cps.toList = a.cps.toList ++ b.cps.toList := by rw [Str.cps_append, Array.toList_append]
theorem len_cps (a : Str) : a.length = a.cps.toList.length := by simp [Str.length]
theorem app_len (a b : Str) : (a ++ b).length = a.length + b.length := by simp [len_cps, app_cps]
theorem app_assoc (a b c : Str) : a ++ b ++ c = a ++ (b ++ c) := PySem.Str.append_assoc a b c
theorem empty_app (a : Str) : Str.empty ++ a = a := str_ext (by rw [app_cps]; rfl)
theorem ofS_cps (s : String) : (Str.ofString s).cps.toList = s.toList.map Char.toNat := by rw [Str.ofString_eq_toList]
theorem glued_join (y : Str) : ∀ l : List Str, Builtin.Str.glued y l = Str.join y l
  | [] => rfl
  | [x] => rfl
  | x :: z :: r => by
    have ih := glued_join y (z :: r)
    unfold Builtin.Str.glued at ih ⊢
    simp only [List.drop_one, List.tail_cons, List.headD_cons, List.foldl_cons] at ih ⊢
    refine str_ext ?_
    have go : ∀ (r : List Str) (a b : Array Nat), (r.foldl (fun acc p => acc ++ y.cps ++ p.cps) (a ++ b)).toList = a.toList ++ (r.foldl (fun acc p => acc ++ y.cps ++ p.cps) b).toList := fun r => by
      induction r with
      | nil => intro a b; simp
      | cons p r ih => intro a b; simp only [List.foldl_cons]; rw [← ih]; simp [Array.append_assoc]
    show (List.foldl (fun acc p => acc ++ y.cps ++ p.cps) (x.cps ++ y.cps ++ z.cps) r).toList = (x ++ y ++ Str.join y (z :: r)).cps.toList
    rw [go, ← ih, app_cps, app_cps]
    simp
theorem tjoin_eq (y : Str) (l : List Str) : Txt.join y l = Str.join y l := glued_join y l
/-- one sign -/
def sgn (c : Nat) : Str := ⟨#[c]⟩
def Free (c : Nat) (x : Str) : Prop := c ∉ x.cps.toList
theorem join_cons2 (y a b : Str) (r : List Str) : Str.join y (a :: b :: r) = a ++ y ++ Str.join y (b :: r) := rfl
theorem app_inj {c : Nat} {a b u v : List Nat} (ha : c ∉ a) (hb : c ∉ b) (e : a ++ c :: u = b ++ c :: v) : a = b ∧ u = v := by
  induction a generalizing b with
  | nil =>
    cases b with
    | nil => simpa using e
    | cons x b => simp at e hb; exact absurd e.1 hb.1
  | cons x a ih =>
    cases b with
    | nil => simp at e ha; exact absurd e.1.symm ha.1
    | cons z b =>
      simp only [List.cons_append, List.cons.injEq, List.mem_cons, not_or] at e ha hb
      obtain ⟨h1, h2⟩ := ih ha.2 hb.2 e.2
      exact ⟨by rw [e.1, h1], h2⟩
theorem join_inj {c : Nat} : ∀ {l m : List Str}, l ≠ [] → m ≠ [] → (∀ x ∈ l, Free c x) → (∀ x ∈ m, Free c x) → Str.join (sgn c) l = Str.join (sgn c) m → l = m
  | [], _, h, _, _, _, _ => absurd rfl h
  | _, [], _, h, _, _, _ => absurd rfl h
  | [x], [y], _, _, _, _, e => by simpa [Str.join] using e
  | [x], y :: z :: r, _, _, h, _, e => by
    have e2 := congrArg (fun s : Str => s.cps.toList) e
    simp only [join_cons2, app_cps, Str.join] at e2
    have := h x (by simp)
    unfold Free at this
    rw [e2] at this
    simp [sgn] at this
  | y :: z :: r, [x], _, _, _, h, e => by
    have e2 := congrArg (fun s : Str => s.cps.toList) e
    simp only [join_cons2, app_cps, Str.join] at e2
    have := h x (by simp)
    unfold Free at this
    rw [← e2] at this
    simp [sgn] at this
  | x :: x' :: l, y :: y' :: m, _, _, h1, h2, e => by
    have e2 := congrArg (fun s : Str => s.cps.toList) e
    simp only [join_cons2, app_cps, List.append_assoc] at e2
    have e3 : x.cps.toList ++ c :: (Str.join (sgn c) (x' :: l)).cps.toList = y.cps.toList ++ c :: (Str.join (sgn c) (y' :: m)).cps.toList := by simpa [sgn] using e2
    obtain ⟨a, b⟩ := app_inj (h1 x (by simp)) (h2 y (by simp)) e3
    have ih := join_inj (l := x' :: l) (m := y' :: m) (by simp) (by simp) (fun z hz => h1 z (List.mem_cons_of_mem _ hz)) (fun z hz => h2 z (List.mem_cons_of_mem _ hz)) (str_ext b)
    rw [str_ext a, ih]
theorem split_ne (x y : Str) : Txt.split x y ≠ [] := fun e => by
  have := PyProof.Rows.split_pos x y
  rw [e] at this
  simp at this
theorem split_join {c : Nat} {l : List Str} (hn : l ≠ []) (h : ∀ x ∈ l, Free c x) : Txt.split (Str.join (sgn c) l) (sgn c) = l :=
  join_inj (c := c) (split_ne _ _) hn (fun x hx => StrLaws.split_free _ c x hx) h (StrLaws.join_split _ _)
theorem join_free {c : Nat} {y : Str} (hy : Free c y) : ∀ {l : List Str}, (∀ x ∈ l, Free c x) → Free c (Str.join y l)
  | [], _ => by simp [Free, Str.join, Str.empty]
  | [x], h => h x (by simp)
  | a :: b :: r, h => by
    have ih := join_free hy (l := b :: r) fun x hx => h x (List.mem_cons_of_mem _ hx)
    have ha := h a (by simp)
    unfold Free at *
    rw [join_cons2, app_cps, app_cps]
    simp only [List.mem_append, not_or]
    exact ⟨⟨ha, hy⟩, ih⟩
theorem join_len (y : Str) : ∀ l : List Str, (Str.join y l).length ≤ (l.map (·.length)).sum + l.length * y.length := StrLaws.join_length_le y
theorem join_len_le {y : Str} {l : List Str} {k m : Nat} (hl : l.length ≤ m) (h : ∀ x ∈ l, x.length ≤ k) : (l.map (·.length)).sum + l.length * y.length ≤ m * (k + y.length) := by
  have : (l.map (·.length)).sum ≤ l.length * k := by
    clear hl
    induction l with
    | nil => simp
    | cons a l ih =>
      have := ih fun x hx => h x (List.mem_cons_of_mem _ hx)
      have := h a (by simp)
      simp only [List.map_cons, List.sum_cons, List.length_cons, Nat.succ_mul]
      omega
  calc _ ≤ l.length * k + l.length * y.length := by omega
    _ = l.length * (k + y.length) := by rw [Nat.mul_add]
    _ ≤ m * (k + y.length) := Nat.mul_le_mul_right _ hl

/-! ### numbers -/
def num (n : Int) : Str := Str.ofString (toString n)
def GNum (n : Int) : Prop := 0 ≤ n ∧ n < 100000
theorem num_nat (m : Nat) : (num (m : Int)).cps.toList = (Nat.toDigits 10 m).map Char.toNat := PySem.W.KIN.signs_num m
theorem digits_le : ∀ {k m : Nat}, 1 ≤ k → m < 10 ^ k → (Nat.toDigits 10 m).length ≤ k
  | 0, m, h, _ => absurd h (by omega)
  | 1, m, _, h => by rw [Nat.toDigits_of_lt_base (by simpa using h)]; simp
  | k + 2, m, _, h => by
    by_cases hm : m < 10
    · rw [Nat.toDigits_of_lt_base hm]; simp
    · have t : Nat.toDigits 10 (m / 10) ++ Nat.toDigits 10 (m % 10) = Nat.toDigits 10 (10 * (m / 10) + m % 10) := Nat.toDigits_append_toDigits (by decide) (by omega) (Nat.mod_lt m (by decide))
      rw [Nat.div_add_mod] at t
      rw [← t, List.length_append, Nat.toDigits_of_lt_base (Nat.mod_lt m (by decide))]
      have := digits_le (k := k + 1) (m := m / 10) (by omega) (by rw [Nat.pow_succ] at h; omega)
      simp
      omega
theorem digits_head : ∀ (m : Nat), m ≠ 0 → ∃ c r, Nat.toDigits 10 m = c :: r ∧ c ≠ '0' := fun m => by
  induction m using Nat.strongRecOn with
  | _ m ih =>
    intro hm
    by_cases h : m < 10
    · refine ⟨Nat.digitChar m, [], Nat.toDigits_of_lt_base h, ?_⟩
      have : ∀ d : Nat, d < 10 → d ≠ 0 → Nat.digitChar d ≠ '0' := by decide
      exact this m h hm
    · have t : Nat.toDigits 10 (m / 10) ++ Nat.toDigits 10 (m % 10) = Nat.toDigits 10 (10 * (m / 10) + m % 10) := Nat.toDigits_append_toDigits (by decide) (by omega) (Nat.mod_lt m (by decide))
      rw [Nat.div_add_mod] at t
      obtain ⟨c, r, e, hc⟩ := ih (m / 10) (by omega) (by omega)
      exact ⟨c, r ++ Nat.toDigits 10 (m % 10), by rw [← t, e]; rfl, hc⟩
theorem num_digits {n : Int} (h : 0 ≤ n) : ∀ c ∈ (num n).cps.toList, 48 ≤ c ∧ c ≤ 57 := fun c hc => by
  obtain ⟨m, rfl⟩ := Int.eq_ofNat_of_zero_le h
  rw [num_nat] at hc
  obtain ⟨ch, hch, e⟩ := List.mem_map.mp hc
  have r := digit_range (Nat.isDigit_of_mem_toDigits (by decide) (by decide) hch)
  rw [← e]
  exact r
theorem num_len {n : Int} (h : GNum n) : 1 ≤ (num n).length ∧ (num n).length ≤ 5 := by
  obtain ⟨m, rfl⟩ := Int.eq_ofNat_of_zero_le h.1
  have h2 := h.2
  rw [len_cps, num_nat, List.length_map]
  refine ⟨?_, digits_le (by decide) (by omega)⟩
  by_cases hm : m = 0
  · subst hm; decide
  · obtain ⟨c, r, e, _⟩ := digits_head m hm
    rw [e]; simp
/-- no leading zero -/
theorem num_head {n : Int} (h : 0 ≤ n) : num n = sgn 48 ∨ ∃ c r, (num n).cps.toList = c :: r ∧ c ≠ 48 := by
  obtain ⟨m, rfl⟩ := Int.eq_ofNat_of_zero_le h
  by_cases hm : m = 0
  · subst hm
    left
    exact str_ext (by rw [num_nat]; decide)
  · right
    obtain ⟨c, r, e, hc⟩ := digits_head m hm
    refine ⟨c.toNat, r.map Char.toNat, by rw [num_nat, e]; rfl, fun e => hc ?_⟩
    exact Char.toNat_inj.mp (by rw [e]; rfl)
theorem num_reads {n : Int} (h : GNum n) : PySem.intText? (num n) = some n := PySem.W.KIN.num_reads h.1 (by have := h.2; omega)
theorem num_log {n : Int} (h : GNum n) : n.natAbs.log2 < 1920 := by
  have h1 := h.1
  have h2 := h.2
  by_cases hz : n.natAbs = 0
  · rw [hz]; decide
  · have := (Nat.log2_lt hz (k := 1920)).mpr (by have : n.natAbs < 2 ^ 17 := by omega
                                                 exact Nat.lt_of_lt_of_le this (Nat.pow_le_pow_right (by decide) (by decide)))
    exact this
end DV

namespace DV
namespace K48
open PySem PySem.Spec PyProof.Rows L2
/-- what _law_spoil may be given -/
def okIn : T → Bool
  | .sh (.tup l) => l.length != 4
  | .tup [_, _, _, .lst l] => decide (l.length < 1000000)
  | .tup l => l.length != 4
  | _ => false
def okItem : T → Bool
  | .sh (.str _) => true
  | .sh (.tup _) => true
  | .tup _ => true
  | .lst l => decide (l.length < 1000000) && l.all okIn
  | _ => false
def okSpoil : T → Bool
  | .tup l => l.all okItem
  | _ => false
def topS (i : Nat) : Stmt := PySem.Challenge.pw_everybodyout_k48_paper_text_there_and_ba.main.body.getD i (.Pass ⟨0, 0, 0, 0⟩)
abbrev s_is_name : Stmt := topS 7
abbrev s_item_line : Stmt := topS 11
abbrev s_triple_lines : Stmt := topS 12
abbrev s_pair_lines : Stmt := topS 13
abbrev s_entry_lines : Stmt := topS 14
abbrev s_write_paper : Stmt := topS 15
abbrev s_is_number : Stmt := topS 16
abbrev s_words_behind : Stmt := topS 17
abbrev s_read_names : Stmt := topS 18
abbrev s_read_numbers : Stmt := topS 19
abbrev s_read_triple : Stmt := topS 20
abbrev s_read_pair : Stmt := topS 21
abbrev s_read_entries : Stmt := topS 22
abbrev s_read_paper : Stmt := topS 23
abbrev s__law_draw : Stmt := topS 25
abbrev s__law_is_number : Stmt := topS 26
abbrev s__law_word : Stmt := topS 27
abbrev s__law_amount : Stmt := topS 28
abbrev s__law_names : Stmt := topS 29
abbrev s__law_amounts : Stmt := topS 30
abbrev s__law_triples : Stmt := topS 31
abbrev s__law_pairs : Stmt := topS 32
abbrev s__law_entry : Stmt := topS 33
abbrev s__law_papers : Stmt := topS 34
abbrev s__law_line : Stmt := topS 35
abbrev s__law_text : Stmt := topS 36
abbrev s__law_copy : Stmt := topS 37
abbrev s__law_alike : Stmt := topS 38
abbrev s__law_spoil : Stmt := topS 39
abbrev s__law_there_and_back : Stmt := topS 40
abbrev s_law : Stmt := topS 41
/-- what the top has written -/
structure Txt (K : PySem.W.Frag) (mg : Str → Option Value) where
  a_is_name : Addr
  fd_is_name : FuncData
  F_is_name : Fun K "is_name" "is_name" s_is_name a_is_name fd_is_name
  m_is_name : mg "is_name" = some (.ref a_is_name)
  b_is_name : Binds K fd_is_name ["text"] []
  a_item_line : Addr
  fd_item_line : FuncData
  F_item_line : Fun K "item_line" "item_line" s_item_line a_item_line fd_item_line
  m_item_line : mg "item_line" = some (.ref a_item_line)
  b_item_line : Binds K fd_item_line ["first", "items"] []
  a_triple_lines : Addr
  fd_triple_lines : FuncData
  F_triple_lines : Fun K "triple_lines" "triple_lines" s_triple_lines a_triple_lines fd_triple_lines
  m_triple_lines : mg "triple_lines" = some (.ref a_triple_lines)
  b_triple_lines : Binds K fd_triple_lines ["movement"] []
  a_pair_lines : Addr
  fd_pair_lines : FuncData
  F_pair_lines : Fun K "pair_lines" "pair_lines" s_pair_lines a_pair_lines fd_pair_lines
  m_pair_lines : mg "pair_lines" = some (.ref a_pair_lines)
  b_pair_lines : Binds K fd_pair_lines ["cut"] []
  a_entry_lines : Addr
  fd_entry_lines : FuncData
  F_entry_lines : Fun K "entry_lines" "entry_lines" s_entry_lines a_entry_lines fd_entry_lines
  m_entry_lines : mg "entry_lines" = some (.ref a_entry_lines)
  b_entry_lines : Binds K fd_entry_lines ["entry"] []
  a_write_paper : Addr
  fd_write_paper : FuncData
  F_write_paper : Fun K "write_paper" "write_paper" s_write_paper a_write_paper fd_write_paper
  m_write_paper : mg "write_paper" = some (.ref a_write_paper)
  b_write_paper : Binds K fd_write_paper ["paper"] []
  a_is_number : Addr
  fd_is_number : FuncData
  F_is_number : Fun K "is_number" "is_number" s_is_number a_is_number fd_is_number
  m_is_number : mg "is_number" = some (.ref a_is_number)
  b_is_number : Binds K fd_is_number ["word"] []
  a_words_behind : Addr
  fd_words_behind : FuncData
  F_words_behind : Fun K "words_behind" "words_behind" s_words_behind a_words_behind fd_words_behind
  m_words_behind : mg "words_behind" = some (.ref a_words_behind)
  b_words_behind : Binds K fd_words_behind ["lines", "at", "first"] []
  a_read_names : Addr
  fd_read_names : FuncData
  F_read_names : Fun K "read_names" "read_names" s_read_names a_read_names fd_read_names
  m_read_names : mg "read_names" = some (.ref a_read_names)
  b_read_names : Binds K fd_read_names ["lines", "at"] []
  a_read_numbers : Addr
  fd_read_numbers : FuncData
  F_read_numbers : Fun K "read_numbers" "read_numbers" s_read_numbers a_read_numbers fd_read_numbers
  m_read_numbers : mg "read_numbers" = some (.ref a_read_numbers)
  b_read_numbers : Binds K fd_read_numbers ["lines", "at", "first"] []
  a_read_triple : Addr
  fd_read_triple : FuncData
  F_read_triple : Fun K "read_triple" "read_triple" s_read_triple a_read_triple fd_read_triple
  m_read_triple : mg "read_triple" = some (.ref a_read_triple)
  b_read_triple : Binds K fd_read_triple ["lines", "at"] []
  a_read_pair : Addr
  fd_read_pair : FuncData
  F_read_pair : Fun K "read_pair" "read_pair" s_read_pair a_read_pair fd_read_pair
  m_read_pair : mg "read_pair" = some (.ref a_read_pair)
  b_read_pair : Binds K fd_read_pair ["lines", "at"] []
  a_read_entries : Addr
  fd_read_entries : FuncData
  F_read_entries : Fun K "read_entries" "read_entries" s_read_entries a_read_entries fd_read_entries
  m_read_entries : mg "read_entries" = some (.ref a_read_entries)
  b_read_entries : Binds K fd_read_entries ["lines"] []
  a_read_paper : Addr
  fd_read_paper : FuncData
  F_read_paper : Fun K "read_paper" "read_paper" s_read_paper a_read_paper fd_read_paper
  m_read_paper : mg "read_paper" = some (.ref a_read_paper)
  b_read_paper : Binds K fd_read_paper ["text"] []
  a__law_draw : Addr
  fd__law_draw : FuncData
  F__law_draw : Fun K "_law_draw" "_law_draw" s__law_draw a__law_draw fd__law_draw
  m__law_draw : mg "_law_draw" = some (.ref a__law_draw)
  b__law_draw : Binds K fd__law_draw ["script", "k", "size"] []
  a__law_is_number : Addr
  fd__law_is_number : FuncData
  F__law_is_number : Fun K "_law_is_number" "_law_is_number" s__law_is_number a__law_is_number fd__law_is_number
  m__law_is_number : mg "_law_is_number" = some (.ref a__law_is_number)
  b__law_is_number : Binds K fd__law_is_number ["value"] []
  a__law_word : Addr
  fd__law_word : FuncData
  F__law_word : Fun K "_law_word" "_law_word" s__law_word a__law_word fd__law_word
  m__law_word : mg "_law_word" = some (.ref a__law_word)
  b__law_word : Binds K fd__law_word ["script", "k"] []
  a__law_amount : Addr
  fd__law_amount : FuncData
  F__law_amount : Fun K "_law_amount" "_law_amount" s__law_amount a__law_amount fd__law_amount
  m__law_amount : mg "_law_amount" = some (.ref a__law_amount)
  b__law_amount : Binds K fd__law_amount ["script", "k"] []
  a__law_names : Addr
  fd__law_names : FuncData
  F__law_names : Fun K "_law_names" "_law_names" s__law_names a__law_names fd__law_names
  m__law_names : mg "_law_names" = some (.ref a__law_names)
  b__law_names : Binds K fd__law_names ["script", "k", "count", "pool"] []
  a__law_amounts : Addr
  fd__law_amounts : FuncData
  F__law_amounts : Fun K "_law_amounts" "_law_amounts" s__law_amounts a__law_amounts fd__law_amounts
  m__law_amounts : mg "_law_amounts" = some (.ref a__law_amounts)
  b__law_amounts : Binds K fd__law_amounts ["script", "k", "count"] []
  a__law_triples : Addr
  fd__law_triples : FuncData
  F__law_triples : Fun K "_law_triples" "_law_triples" s__law_triples a__law_triples fd__law_triples
  m__law_triples : mg "_law_triples" = some (.ref a__law_triples)
  b__law_triples : Binds K fd__law_triples ["script", "k", "count", "pool"] []
  a__law_pairs : Addr
  fd__law_pairs : FuncData
  F__law_pairs : Fun K "_law_pairs" "_law_pairs" s__law_pairs a__law_pairs fd__law_pairs
  m__law_pairs : mg "_law_pairs" = some (.ref a__law_pairs)
  b__law_pairs : Binds K fd__law_pairs ["script", "k", "count", "pool"] []
  a__law_entry : Addr
  fd__law_entry : FuncData
  F__law_entry : Fun K "_law_entry" "_law_entry" s__law_entry a__law_entry fd__law_entry
  m__law_entry : mg "_law_entry" = some (.ref a__law_entry)
  b__law_entry : Binds K fd__law_entry ["script", "k", "pool", "times"] []
  a__law_papers : Addr
  fd__law_papers : FuncData
  F__law_papers : Fun K "_law_papers" "_law_papers" s__law_papers a__law_papers fd__law_papers
  m__law_papers : mg "_law_papers" = some (.ref a__law_papers)
  b__law_papers : Binds K fd__law_papers ["script"] []
  a__law_line : Addr
  fd__law_line : FuncData
  F__law_line : Fun K "_law_line" "_law_line" s__law_line a__law_line fd__law_line
  m__law_line : mg "_law_line" = some (.ref a__law_line)
  b__law_line : Binds K fd__law_line ["first", "items"] []
  a__law_text : Addr
  fd__law_text : FuncData
  F__law_text : Fun K "_law_text" "_law_text" s__law_text a__law_text fd__law_text
  m__law_text : mg "_law_text" = some (.ref a__law_text)
  b__law_text : Binds K fd__law_text ["paper"] []
  a__law_copy : Addr
  fd__law_copy : FuncData
  F__law_copy : Fun K "_law_copy" "_law_copy" s__law_copy a__law_copy fd__law_copy
  m__law_copy : mg "_law_copy" = some (.ref a__law_copy)
  b__law_copy : Binds K fd__law_copy ["value"] []
  a__law_alike : Addr
  fd__law_alike : FuncData
  F__law_alike : Fun K "_law_alike" "_law_alike" s__law_alike a__law_alike fd__law_alike
  m__law_alike : mg "_law_alike" = some (.ref a__law_alike)
  b__law_alike : Binds K fd__law_alike ["value", "due"] []
  a__law_spoil : Addr
  fd__law_spoil : FuncData
  F__law_spoil : Fun K "_law_spoil" "_law_spoil" s__law_spoil a__law_spoil fd__law_spoil
  m__law_spoil : mg "_law_spoil" = some (.ref a__law_spoil)
  b__law_spoil : Binds K fd__law_spoil ["paper"] []
  a__law_there_and_back : Addr
  fd__law_there_and_back : FuncData
  F__law_there_and_back : Fun K "_law_there_and_back" "_law_there_and_back" s__law_there_and_back a__law_there_and_back fd__law_there_and_back
  m__law_there_and_back : mg "_law_there_and_back" = some (.ref a__law_there_and_back)
  b__law_there_and_back : Binds K fd__law_there_and_back ["paper"] []
  a_law : Addr
  fd_law : FuncData
  F_law : Fun K "law" "law" s_law a_law fd_law
  m_law : mg "law" = some (.ref a_law)
  b_law : Binds K fd_law ["script"] []
  n_abs : mg "abs" = none
  n_bool : mg "bool" = none
  n_int : mg "int" = none
  n_isinstance : mg "isinstance" = none
  n_len : mg "len" = none
  n_list : mg "list" = none
  n_min : mg "min" = none
  n_range : mg "range" = none
  n_str : mg "str" = none
  n_tuple : mg "tuple" = none
  c_DIGITS : ∃ u, mg "DIGITS" = some u ∧ RelV (.str "0123456789") u
  c_LETTERS : ∃ u, mg "LETTERS" = some u ∧ RelV (.str "abcdefghijklmnopqrstuvwxyz") u
  c_LONGEST_NAME : ∃ u, mg "LONGEST_NAME" = some u ∧ RelV (.int 12) u
  c_MOST_DIGITS : ∃ u, mg "MOST_DIGITS" = some u ∧ RelV (.int 5) u
  c_SIGNS : ∃ u, mg "SIGNS" = some u ∧ RelV (.str "abcdefghijklmnopqrstuvwxyz0123456789") u
section
variable {P : Program} {w : World} {K : PySem.W.Frag} {mg : Str → Option Value} {base : Heap}
noncomputable def lb_is_name_1 : FS := (ifF (toB (op2 (vop notinD) (rdVar 1) (cst (.str "abcdefghijklmnopqrstuvwxyz0123456789"))))
  (retF (cst (.bl false)))
  nextF)
theorem sc_is_name : FnScope ["text", "sign"] ["text"] (defScope s_is_name) := ⟨rfl, rfl, rfl, by decide +kernel, rfl, by decide +kernel, by decide +kernel⟩
noncomputable def fb_is_name : FS := (seqF (ifF (orB (toB (op2 (vop ltD) (opA (vcall lenD) (consA (rdVar 0) nilA)) (cst (.int 1)))) (orB (toB (op2 (vop gtD) (opA (vcall lenD) (consA (rdVar 0) nilA)) (cst (.int 12)))) (toB (op2 (vop notinD) (op2 ixT (rdVar 0) (cst (.int 0))) (cst (.str "abcdefghijklmnopqrstuvwxyz"))))))
  (retF (cst (.bl false)))
  nextF)
  (seqF (forS (tgName 1)
  lb_is_name_1 (vr 0))
  (retF (cst (.bl true)))))
noncomputable def fn_is_name : FD := fnF 2 fb_is_name
theorem ok_is_name (T : Txt K mg) : FnOk P w K mg base (L2.CX P w) 1 T.a_is_name T.fd_is_name ["text"] (spD 1 K fn_is_name) := fn_ok T.F_is_name sc_is_name fun cdv A outer s H E hr C => (by
  exact (dss_cons (ds_if (DW.pt (dw_or (dt_cmp op_lt (OpV.d opv_lt) (de_callB (fr := false) call_len (CallV.d callv_len) (by rfl) T.n_len PySem.boot_len (da_cons (dr_var 0) da_nil)) de_int (nomark _)) (dw_or (dt_cmp op_gt (OpV.d opv_gt) (de_callB (fr := false) call_len (CallV.d callv_len) (by rfl) T.n_len PySem.boot_len (da_cons (dr_var 0) da_nil)) (de_globE (by rfl) T.c_LONGEST_NAME rfl) (nomark _)) (dw_or1 (dt_cmp (op_notIn_sign.or op_notIn_seq) (OpV.d opv_notin) (dr_ix ix_seq opp_ix (fun _ _ => rfl) (dr_var 0) de_int) (de_globE (by rfl) T.c_LETTERS rfl) (by rfl))))))
  (dss_one (ds_ret de_bl))
  dss_nil)
  (dss_cons (ds_forS C (de_var' 0) (dg_name 1 C.nd)
  (dss_one (ds_if (dt_cmp (op_notIn_sign.or op_notIn_seq) (OpV.d opv_notin) (dr_var 1) (de_globE (by rfl) T.c_SIGNS rfl) (by rfl))
  (dss_one (ds_ret de_bl))
  dss_nil)))
  (dss_one (ds_ret de_bl)))))
noncomputable def le_item_line_1 : FE := (opA (vcall strD) (consA (rdVar 2) nilA))
theorem sc_item_line : FnScope ["first", "items", "item"] ["first", "items"] (defScope s_item_line) := ⟨rfl, rfl, rfl, by decide +kernel, rfl, by decide +kernel, by decide +kernel⟩
noncomputable def fb_item_line : FS := (retF (m1F joinT (cst (.str " ")) (op2 addT (opA lstT (consA (vr 0) nilA)) (compE tupD [2] (tgName 2) yesB le_item_line_1 (vr 1)))))
noncomputable def fn_item_line : FD := fnF 3 fb_item_line
theorem ok_item_line (T : Txt K mg) : FnOk P w K mg base (L2.CX P w) 1 T.a_item_line T.fd_item_line ["first", "items"] (spD 2 K fn_item_line) := fn_ok T.F_item_line sc_item_line fun cdv A outer s H E hr C => (by
  exact (dss_one (ds_ret (de_join de_str (de_op opr_add opd_add (de_lst (da_cons (de_var' 0) da_nil)) (dv_lcT (own := [("item", 2)]) C (de_var' 1) (blkOk_by (N := ["first", "items", "item"]) (sc := defScope s_item_line) (own := [("item", 2)]) (by decide +kernel)) (fun _ _ _ _ _ => (dgc_name 2 (ctx_blk C).nd)) (fun _ _ _ _ _ => dc_nil) (fun _ _ _ _ _ => (de_callTy (fr := false) cr_str (CallV.d callv_str) (by rfl) T.n_str boot_str (da_cons (dr_var 2) da_nil)))).de)))))
noncomputable def le_triple_lines_1 : FE := (joinF [(fmtF (rdVar 1)), (cst (.str " ")), (fmtF (rdVar 2)), (cst (.str " ")), (fmtF (rdVar 3))] Str.empty)
theorem sc_triple_lines : FnScope ["movement", "minute", "way", "number"] ["movement"] (defScope s_triple_lines) := ⟨rfl, rfl, rfl, by decide +kernel, rfl, by decide +kernel, by decide +kernel⟩
noncomputable def fb_triple_lines : FS := (retF (compE listD [1, 2, 3] (tgTup 3 [(tgName 1), (tgName 2), (tgName 3)]) yesB le_triple_lines_1 (vr 0)))
noncomputable def fn_triple_lines : FD := fnF 4 fb_triple_lines
theorem ok_triple_lines (T : Txt K mg) : FnOk P w K mg base (L2.CX P w) 1 T.a_triple_lines T.fd_triple_lines ["movement"] (spD 1 K fn_triple_lines) := fn_ok T.F_triple_lines sc_triple_lines fun cdv A outer s H E hr C => (by
  exact (dss_one (ds_ret (dv_lcL (own := [("minute", 1), ("way", 2), ("number", 3)]) C (de_var' 0) (blkOk_by (N := ["movement", "minute", "way", "number"]) (sc := defScope s_triple_lines) (own := [("minute", 1), ("way", 2), ("number", 3)]) (by decide +kernel)) (fun _ _ _ _ _ => (dgc_tup (n := 3) (ctx_blk C).calm (dgcs_cons (dgc_name 1 (ctx_blk C).nd) (dgcs_cons (dgc_name 2 (ctx_blk C).nd) (dgcs_cons (dgc_name 3 (ctx_blk C).nd) dgcs_nil))))) (fun _ _ _ _ _ => dc_nil) (fun _ _ _ _ _ => (de_fstr (.cons (de_fmt (dr_var 1)) (.cons de_str (.cons (de_fmt (dr_var 2)) (.cons de_str (.cons (de_fmt (dr_var 3)) .nil)))))))).de)))
noncomputable def le_pair_lines_1 : FE := (joinF [(fmtF (rdVar 1)), (cst (.str " ")), (fmtF (rdVar 2))] Str.empty)
theorem sc_pair_lines : FnScope ["cut", "room", "minute"] ["cut"] (defScope s_pair_lines) := ⟨rfl, rfl, rfl, by decide +kernel, rfl, by decide +kernel, by decide +kernel⟩
noncomputable def fb_pair_lines : FS := (retF (compE listD [1, 2] (tgTup 2 [(tgName 1), (tgName 2)]) yesB le_pair_lines_1 (vr 0)))
noncomputable def fn_pair_lines : FD := fnF 3 fb_pair_lines
theorem ok_pair_lines (T : Txt K mg) : FnOk P w K mg base (L2.CX P w) 1 T.a_pair_lines T.fd_pair_lines ["cut"] (spD 1 K fn_pair_lines) := fn_ok T.F_pair_lines sc_pair_lines fun cdv A outer s H E hr C => (by
  exact (dss_one (ds_ret (dv_lcL (own := [("room", 1), ("minute", 2)]) C (de_var' 0) (blkOk_by (N := ["cut", "room", "minute"]) (sc := defScope s_pair_lines) (own := [("room", 1), ("minute", 2)]) (by decide +kernel)) (fun _ _ _ _ _ => (dgc_tup (n := 2) (ctx_blk C).calm (dgcs_cons (dgc_name 1 (ctx_blk C).nd) (dgcs_cons (dgc_name 2 (ctx_blk C).nd) dgcs_nil)))) (fun _ _ _ _ _ => dc_nil) (fun _ _ _ _ _ => (de_fstr (.cons (de_fmt (dr_var 1)) (.cons de_str (.cons (de_fmt (dr_var 2)) .nil)))))).de)))
noncomputable def lb_is_number_1 : FS := (ifF (toB (op2 (vop notinD) (rdVar 1) (cst (.str "0123456789"))))
  (retF (cst (.bl false)))
  nextF)
theorem sc_is_number : FnScope ["word", "sign"] ["word"] (defScope s_is_number) := ⟨rfl, rfl, rfl, by decide +kernel, rfl, by decide +kernel, by decide +kernel⟩
noncomputable def fb_is_number : FS := (seqF (ifF (orB (toB (op2 (vop ltD) (opA (vcall lenD) (consA (rdVar 0) nilA)) (cst (.int 1)))) (toB (op2 (vop gtD) (opA (vcall lenD) (consA (rdVar 0) nilA)) (cst (.int 5)))))
  (retF (cst (.bl false)))
  nextF)
  (seqF (forS (tgName 1)
  lb_is_number_1 (vr 0))
  (retF (orV (op2 (vop eqD) (rdVar 0) (cst (.str "0"))) (op2 (vop neD) (op2 ixT (rdVar 0) (cst (.int 0))) (cst (.str "0")))))))
noncomputable def fn_is_number : FD := fnF 2 fb_is_number
theorem ok_is_number (T : Txt K mg) : FnOk P w K mg base (L2.CX P w) 1 T.a_is_number T.fd_is_number ["word"] (spD 1 K fn_is_number) := fn_ok T.F_is_number sc_is_number fun cdv A outer s H E hr C => (by
  exact (dss_cons (ds_if (DW.pt (dw_or (dt_cmp op_lt (OpV.d opv_lt) (de_callB (fr := false) call_len (CallV.d callv_len) (by rfl) T.n_len PySem.boot_len (da_cons (dr_var 0) da_nil)) de_int (nomark _)) (dw_or1 (dt_cmp op_gt (OpV.d opv_gt) (de_callB (fr := false) call_len (CallV.d callv_len) (by rfl) T.n_len PySem.boot_len (da_cons (dr_var 0) da_nil)) (de_globE (by rfl) T.c_MOST_DIGITS rfl) (nomark _)))))
  (dss_one (ds_ret de_bl))
  dss_nil)
  (dss_cons (ds_forS C (de_var' 0) (dg_name 1 C.nd)
  (dss_one (ds_if (dt_cmp (op_notIn_sign.or op_notIn_seq) (OpV.d opv_notin) (dr_var 1) (de_globE (by rfl) T.c_DIGITS rfl) (by rfl))
  (dss_one (ds_ret de_bl))
  dss_nil)))
  (dss_one (ds_ret (de_or (de_cmp (op_eq.or (op_eqD hr.units)) (OpV.d opv_eq) (dr_var 0) de_str (nomark _)) (de_one (de_cmp (op_ne.or (op_neD hr.units)) (OpV.d opv_ne) (dr_ix ix_seq opp_ix (fun _ _ => rfl) (dr_var 0) de_int) de_str (nomark _)))))))))
theorem sc_words_behind : FnScope ["lines", "at", "first", "words"] ["lines", "at", "first"] (defScope s_words_behind) := ⟨rfl, rfl, rfl, by decide +kernel, rfl, by decide +kernel, by decide +kernel⟩
noncomputable def fb_words_behind : FS := (seqF (ifF (toB (op2 (vop geD) (rdVar 1) (opA (vcall lenD) (consA (rdVar 0) nilA))))
  neverF
  nextF)
  (seqF (setF 3 (frzV (m1F splitT (op2 ixT (rdVar 0) (rdVar 1)) (cst (.str " ")))))
  (seqF (ifF (toB (op2 (vop neD) (op2 ixT (rdVar 3) (cst (.int 0))) (rdVar 2)))
  neverF
  nextF)
  (retF (slF cutTL (rdVar 3) (partF (cst (.int 1))) (fun _ => some (.ok none)))))))
noncomputable def fn_words_behind : FD := fnF 4 fb_words_behind
theorem ok_words_behind (T : Txt K mg) : FnOk P w K mg base (L2.CX P w) 1 T.a_words_behind T.fd_words_behind ["lines", "at", "first"] (spD 3 K fn_words_behind) := fn_ok T.F_words_behind sc_words_behind fun cdv A outer s H E hr C => (by
  exact (dss_cons (ds_if (dt_cmp op_ge (OpV.d opv_ge) (dr_var 1) (de_callB (fr := false) call_len (CallV.d callv_len) (by rfl) T.n_len PySem.boot_len (da_cons (dr_var 0) da_nil)) (nomark _))
  (dss_one ds_never)
  dss_nil)
  (dss_cons (ds_set 3 C.nd (DE.frz (de_split (dr_ix ix_seq opp_ix (fun _ _ => rfl) (dr_var 0) (dr_var 1)) de_str)))
  (dss_cons (ds_if (dt_cmp (op_ne.or (op_neD hr.units)) (OpV.d opv_ne) (dr_ix ix_seq opp_ix (fun _ _ => rfl) (dr_var 3) de_int) (dr_var 2) (nomark _))
  (dss_one ds_never)
  dss_nil)
  (dss_one (ds_ret (de_slice sl_list sld_list (dr_var 3) (do_some de_int) do_none)))))))
noncomputable def lb__law_draw_1 : FS := (setF 6 (frzV (op2 (vop fdivD) (rdVar 6) (cst (.int 10000)))))
theorem sc__law_draw : FnScope ["script", "k", "size", "count", "cell", "mixed", "rest", "turn"] ["script", "k", "size"] (defScope s__law_draw) := ⟨rfl, rfl, rfl, by decide +kernel, rfl, by decide +kernel, by decide +kernel⟩
noncomputable def fb__law_draw : FS := (seqF (setF 3 (opA (vcall min2D) (consA (opA (vcall lenD) (consA (rdVar 0) nilA)) (consA (cst (.int 63)) nilA))))
  (seqF (setF 4 (cst (.int 0)))
  (seqF (ifF (toB (op2 (vop gtD) (rdVar 3) (cst (.int 0))))
  (setF 4 (opA (vcall absD) (consA (op2 ixT (rdVar 0) (op2 (vop modD) (rdVar 1) (rdVar 3))) nilA)))
  nextF)
  (seqF (ifF (toB (op2 (vop geD) (rdVar 4) (op2 (vop powD) (cst (.int 10)) (cst (.int 18)))))
  (seqF (setF 6 (frzV (vr 4)))
  (seqF (forR1 (tgName 7)
  lb__law_draw_1 (op2 (vop fdivD) (rdVar 1) (rdVar 3)))
  (ifF (toB (op2 (vop gtD) (rdVar 6) (cst (.int 0))))
  (retF (op2 (vop modD) (op2 (vop modD) (opA (vcall intD1) (consA (rdVar 6) nilA)) (cst (.int 10000))) (rdVar 2)))
  nextF)))
  nextF)
  (seqF (setF 5 (frzV (op2 (vop modD) (opA (vcall intD1) (consA (op2 addT (op2 addT (rdVar 4) (op2 mulT (cst (.int 7919)) (rdVar 1))) (cst (.int 13))) nilA)) (cst (.int 2147483647)))))
  (seqF (setF 5 (frzV (op2 (vop modD) (opA (vcall intD1) (consA (op2 mulT (rdVar 5) (op2 addT (rdVar 5) (cst (.int 48271)))) nilA)) (cst (.int 2147483629)))))
  (seqF (setF 5 (frzV (op2 (vop modD) (opA (vcall intD1) (consA (op2 addT (op2 mulT (rdVar 5) (op2 addT (rdVar 5) (cst (.int 69621)))) (op2 mulT (cst (.int 31)) (rdVar 1))) nilA)) (cst (.int 2147483647)))))
  (retF (op2 (vop modD) (opA (vcall intD1) (consA (op2 (vop fdivD) (rdVar 5) (cst (.int 9))) nilA)) (rdVar 2))))))))))
noncomputable def fn__law_draw : FD := fnF 8 fb__law_draw
theorem ok__law_draw (T : Txt K mg) : FnOk P w K mg base (L2.CX P w) 1 T.a__law_draw T.fd__law_draw ["script", "k", "size"] (spD 3 K fn__law_draw) := fn_ok T.F__law_draw sc__law_draw fun cdv A outer s H E hr C => (by
  exact (dss_cons (ds_set 3 C.nd (de_callB (fr := false) (call_min2 C.calm) (CallV.d callv_min2) (by rfl) T.n_min boot_min (da_cons (de_callB (fr := false) call_len (CallV.d callv_len) (by rfl) T.n_len PySem.boot_len (da_cons (dr_var 0) da_nil)).weak (da_cons de_int.weak da_nil))))
  (dss_cons (ds_set 4 C.nd de_int)
  (dss_cons (ds_if (dt_cmp op_gt (OpV.d opv_gt) (dr_var 3) de_int (nomark _))
  (dss_one (ds_set 4 C.nd (de_callB (fr := false) call_abs (CallV.d callv_abs) (by rfl) T.n_abs boot_abs (da_cons (dr_ix ix_seq opp_ix (fun _ _ => rfl) (dr_var 0) (de_op op_mod (OpV.d opv_mod) (dr_var 1) (dr_var 3))) da_nil))))
  dss_nil)
  (dss_cons (ds_if (dt_cmp op_ge (OpV.d opv_ge) (dr_var 4) (de_op op_pow (OpV.d opv_pow) de_int de_int) (nomark _))
  (dss_cons (ds_set 6 C.nd (DE.frz (de_var' 4)))
  (dss_cons (ds_forR1 C (by rfl) T.n_range (de_op op_fdiv (OpV.d opv_fdiv) (dr_var 1) (dr_var 3)) (dg_name 7 C.nd)
  (dss_one (ds_set 6 C.nd (DE.frz (de_op op_fdiv (OpV.d opv_fdiv) (dr_var 6) de_int)))))
  (dss_one (ds_if (dt_cmp op_gt (OpV.d opv_gt) (dr_var 6) de_int (nomark _))
  (dss_one (ds_ret (de_op op_mod (OpV.d opv_mod) (de_op op_mod (OpV.d opv_mod) (de_callTy (fr := false) cr_int (CallV.d callv_int) (by rfl) T.n_int boot_int (da_cons (dr_var 6) da_nil)) de_int) (dr_var 2))))
  dss_nil))))
  dss_nil)
  (dss_cons (ds_set 5 C.nd (DE.frz (de_op op_mod (OpV.d opv_mod) (de_callTy (fr := false) cr_int (CallV.d callv_int) (by rfl) T.n_int boot_int (da_cons (de_op opr_add opd_add (de_op opr_add opd_add (dr_var 4) (de_op opr_mul opd_mul de_int (dr_var 1))) de_int).weak da_nil)) de_int)))
  (dss_cons (ds_set 5 C.nd (DE.frz (de_op op_mod (OpV.d opv_mod) (de_callTy (fr := false) cr_int (CallV.d callv_int) (by rfl) T.n_int boot_int (da_cons (de_op opr_mul opd_mul (dr_var 5) (de_op opr_add opd_add (dr_var 5) de_int)).weak da_nil)) de_int)))
  (dss_cons (ds_set 5 C.nd (DE.frz (de_op op_mod (OpV.d opv_mod) (de_callTy (fr := false) cr_int (CallV.d callv_int) (by rfl) T.n_int boot_int (da_cons (de_op opr_add opd_add (de_op opr_mul opd_mul (dr_var 5) (de_op opr_add opd_add (dr_var 5) de_int)) (de_op opr_mul opd_mul de_int (dr_var 1))).weak da_nil)) de_int)))
  (dss_one (ds_ret (de_op op_mod (OpV.d opv_mod) (de_callTy (fr := false) cr_int (CallV.d callv_int) (by rfl) T.n_int boot_int (da_cons (de_op op_fdiv (OpV.d opv_fdiv) (dr_var 5) de_int).weak da_nil)) (dr_var 2))))))))))))
theorem sc__law_is_number : FnScope ["value"] ["value"] (defScope s__law_is_number) := ⟨rfl, rfl, rfl, by decide +kernel, rfl, by decide +kernel, by decide +kernel⟩
noncomputable def fb__law_is_number : FS := (retF (andV (isiF "int" (rdVar 0)) (notV (isiF "bool" (rdVar 0)))))
noncomputable def fn__law_is_number : FD := fnF 1 fb__law_is_number
theorem ok__law_is_number (T : Txt K mg) : FnOk P w K mg base (L2.CX P w) 1 T.a__law_is_number T.fd__law_is_number ["value"] (spD 1 K fn__law_is_number) := fn_ok T.F__law_is_number sc__law_is_number fun cdv A outer s H E hr C => (by
  exact (dss_one (ds_ret (de_and (de_isi (n := "int") (by decide) (dr_var 0) (by rfl) T.n_isinstance boot_isinstance (by rfl) T.n_int boot_int) (de_one (de_not (de_isi (n := "bool") (by decide) (dr_var 0) (by rfl) T.n_isinstance boot_isinstance (by rfl) T.n_bool boot_bool)))))))
noncomputable def lb__law_line_1 : FS := (setF 2 (frzV (op2 addT (op2 addT (rdVar 2) (cst (.str " "))) (frzV (opA (vcall strD) (consA (rdVar 3) nilA))))))
theorem sc__law_line : FnScope ["first", "items", "line", "item"] ["first", "items"] (defScope s__law_line) := ⟨rfl, rfl, rfl, by decide +kernel, rfl, by decide +kernel, by decide +kernel⟩
noncomputable def fb__law_line : FS := (seqF (setF 2 (frzV (vr 0)))
  (seqF (forT (tgName 3)
  lb__law_line_1 (vr 1))
  (retMv 2)))
noncomputable def fn__law_line : FD := fnF 4 fb__law_line
theorem ok__law_line (T : Txt K mg) : FnOk P w K mg base (L2.CX P w) 1 T.a__law_line T.fd__law_line ["first", "items"] (spD 2 K fn__law_line) := fn_ok T.F__law_line sc__law_line fun cdv A outer s H E hr C => (by
  exact (dss_cons (ds_set 2 C.nd (DE.frz (de_var' 0)))
  (dss_cons (ds_forT C (de_var' 1) (dg_name 3 C.nd)
  (dss_one (ds_set 2 C.nd (DE.frz (de_op opr_add opd_add (de_op opr_add opd_add (dr_var 2) de_str) (DE.frz (de_callTy (fr := false) cr_str (CallV.d callv_str) (by rfl) T.n_str boot_str (da_cons (dr_var 3) da_nil))))))))
  (dss_one (ds_retMv 2)))))
noncomputable def le__law_copy_1 (R : FD) : FE := (callF R (consA (vr 1) nilA))
noncomputable def le__law_copy_2 (R : FD) : FE := (callF R (consA (vr 1) nilA))
theorem sc__law_copy : FnScope ["value", "item"] ["value"] (defScope s__law_copy) := ⟨rfl, rfl, rfl, by decide +kernel, rfl, by decide +kernel, by decide +kernel⟩
noncomputable def fb__law_copy (R : FD) : FS := (seqF (ifF (toB (isiF "tuple" (rdVar 0)))
  (retF (tupMvE (compE tupD [1] (tgName 1) yesB (le__law_copy_1 R) (vr 0))))
  nextF)
  (seqF (ifF (toB (isiF "list" (rdVar 0)))
  (retF (compE listD [1] (tgName 1) yesB (le__law_copy_2 R) (vr 0)))
  nextF)
  (retMv 0)))
noncomputable def fn__law_copy : Nat → FD
  | 0 => fun _ => none
  | n + 1 => fnF 2 (fb__law_copy (fn__law_copy n))
theorem ok__law_copy (T : Txt K mg) : ∀ n : Nat, FnOk P w K mg base (L2.CX P w) (n + 1) T.a__law_copy T.fd__law_copy ["value"] (spD 1 K (fn__law_copy n))
  | 0 => ⟨fun vs H Q E h => spD_len vs H Q E h, fun A outer s H args us vs Q E hr he hb hv hs => by obtain ⟨G, ds, _, _, _, h⟩ := hs; exact h.elim⟩
  | n + 1 => fn_ok T.F__law_copy sc__law_copy fun cdv A outer s H E hr C => (by
    have ihR := ok__law_copy T n
    exact (dss_cons (ds_if (dt_val (de_isi (n := "tuple") (by decide) (dr_var 0) (by rfl) T.n_isinstance boot_isinstance (by rfl) T.n_tuple boot_tuple))
  (dss_one (ds_ret (de_tupMv (dv_lcT (own := [("item", 1)]) C (de_var' 0) (blkOk_by (N := ["value", "item"]) (sc := defScope s__law_copy) (own := [("item", 1)]) (by decide +kernel)) (fun _ _ _ _ _ => (dgc_name 1 (ctx_blk C).nd)) (fun _ _ _ _ _ => dc_nil) (fun _ _ _ _ _ => (de_call (ctx_blk C) ihR hr T.m__law_copy T.F__law_copy.kp T.b__law_copy (da_cons (de_var' 1) da_nil) (consA_len nilA_len)))).de (by rfl) T.n_tuple boot_tuple)))
  dss_nil)
  (dss_cons (ds_if (dt_val (de_isi (n := "list") (by decide) (dr_var 0) (by rfl) T.n_isinstance boot_isinstance (by rfl) T.n_list boot_list))
  (dss_one (ds_ret (dv_lcL (own := [("item", 1)]) C (de_var' 0) (blkOk_by (N := ["value", "item"]) (sc := defScope s__law_copy) (own := [("item", 1)]) (by decide +kernel)) (fun _ _ _ _ _ => (dgc_name 1 (ctx_blk C).nd)) (fun _ _ _ _ _ => dc_nil) (fun _ _ _ _ _ => (de_call (ctx_blk C) ihR hr T.m__law_copy T.F__law_copy.kp T.b__law_copy (da_cons (de_var' 1) da_nil) (consA_len nilA_len)))).de))
  dss_nil)
  (dss_one (ds_retMv 0)))))
noncomputable def lb__law_spoil_1 : FS := (ifF (andB (toB (isiF "tuple" (rdVar 2))) (toB (op2 (vop eqD) (opA (vcall lenD) (consA (rdVar 2) nilA)) (cst (.int 4)))))
  (appendF 2 (ixPT 2 (hereP 2) (cst (.int 3))) (frzV (opA tupT (consA (cst (.int 7)) (consA (cst (.str "w")) (consA (cst (.int 7)) nilA))))))
  nextF)
noncomputable def lb__law_spoil_2 : FS := (ifF (toB (isiF "list" (rdVar 1)))
  (seqF (eatL (tgName 2) lb__law_spoil_1 1)
  (appendF 1 (hereP 1) (frzV (opA tupT (consA (cst (.str "w")) (consA (cst (.int 7)) nilA))))))
  nextF)
theorem sc__law_spoil : FnScope ["paper", "item", "inner"] ["paper"] (defScope s__law_spoil) := ⟨rfl, rfl, rfl, by decide +kernel, rfl, by decide +kernel, by decide +kernel⟩
noncomputable def fb__law_spoil : FS := (eatT (tgName 1) lb__law_spoil_2 0)
theorem spoil_in {t : T} (h : okIn t = true) : ∃ t', ∀ a : Addr, lb__law_spoil_1 [none, some (.sh (.ref a)), some t] = some (.nx [none, some (.sh (.ref a)), some t']) := by
  have small : ∀ l : List T, (l.length != 4) = true → ∀ a : Addr, lb__law_spoil_1 [none, some (.sh (.ref a)), some (.tup l)] = some (.nx [none, some (.sh (.ref a)), some (.tup l)]) := fun l hl a => by
    have h1 : ¬ ((l.length : Int) = 4) := by
      have : l.length ≠ 4 := by simpa using hl
      omega
    have e1 : (T.dl l).length = l.length := T.dl_length l
    simp [lb__law_spoil_1, tyD, isB, e1, h1]
  match t, h with
  | .sh (.tup l), h =>
    refine ⟨.sh (.tup l), fun a => ?_⟩
    have h1 : ¬ ((l.length : Int) = 4) := by
      have : l.length ≠ 4 := by simpa [okIn] using h
      omega
    simp [lb__law_spoil_1, tyD, isB, h1]
  | .tup [x, y, z, .lst m], h =>
    have hm : m.length < sizeLine := by
      have : m.length < 1000000 := by simpa [okIn] using h
      rw [sizeLine_eq]; omega
    have e3 : ixN 4 3 = some 3 := rfl
    have z3 : (3 : Nat) ≤ sizeLine := by rw [sizeLine_eq]; omega
    refine ⟨.tup [x, y, z, .lst (m ++ [.sh (.tup [.int 7, .str "w", .int 7])])], fun a => ?_⟩
    simp [lb__law_spoil_1, tyD, isB, ixPT, e3, atE, T.at, T.step, putE, T.put, T.put1, hm, tupT, z3]
  | .tup [], h => exact ⟨_, small [] rfl⟩
  | .tup [x], h => exact ⟨_, small [x] rfl⟩
  | .tup [x, y], h => exact ⟨_, small [x, y] rfl⟩
  | .tup [x, y, z], h => exact ⟨_, small [x, y, z] rfl⟩
  | .tup [x, y, z, .sh d], h => simp [okIn] at h
  | .tup [x, y, z, .tup d], h => simp [okIn] at h
  | .tup [x, y, z, .dct _ d], h => simp [okIn] at h
  | .tup [x, y, z, .dtt _ d], h => simp [okIn] at h
  | .tup [x, y, z, .ins _ _ d], h => simp [okIn] at h
  | .tup (x :: y :: z :: u :: v :: l), h => exact ⟨_, small (x :: y :: z :: u :: v :: l) (by simp)⟩
theorem spoil_ins : ∀ (ts : List T) (b : Option T), ts.all okIn = true → ∃ c, ∀ a : Addr, forF (tgName 2) lb__law_spoil_1 ts [none, some (.sh (.ref a)), b] = some (.nx [none, some (.sh (.ref a)), c])
  | [], b, _ => ⟨b, fun a => rfl⟩
  | t :: ts, b, h => by
    simp only [List.all_cons, Bool.and_eq_true] at h
    obtain ⟨t', e⟩ := spoil_in h.1
    obtain ⟨c, k⟩ := spoil_ins ts (some t') h.2
    refine ⟨c, fun a => ?_⟩
    rw [← k a]
    simp [forF, e a]
theorem spoil_item {t : T} (b : Option T) (h : okItem t = true) : ∃ x c, lb__law_spoil_2 [none, some t, b] = some (.nx [none, x, c]) := by
  match t, h with
  | .sh (.str s), h => exact ⟨_, b, by simp [lb__law_spoil_2, tyD, isB]; rfl⟩
  | .sh (.tup s), h => exact ⟨_, b, by simp [lb__law_spoil_2, tyD, isB]; rfl⟩
  | .tup s, h => exact ⟨_, b, by simp [lb__law_spoil_2, tyD, isB]; rfl⟩
  | .lst l, h =>
    simp only [okItem, Bool.and_eq_true, decide_eq_true_eq] at h
    obtain ⟨c, k⟩ := spoil_ins l b h.2
    have e := eatL_of (tg := tgName 2) (B := lb__law_spoil_1) (ρ := [none, some (.lst l), b]) (ρ0 := [none, none, c]) (j := 1) (ts := l) rfl (by simp) (fun a => k a)
    have hz : (l.map fun _ => T.sh .any).length < sizeLine := by rw [List.length_map, sizeLine_eq]; omega
    have hz' : l.length < sizeLine := by rw [sizeLine_eq]; omega
    have z2 : (2 : Nat) ≤ sizeLine := by rw [sizeLine_eq]; omega
    refine ⟨some (.lst ((l.map fun _ => T.sh .any) ++ [.sh (.tup [.str "w", .int 7])])), c, ?_⟩
    simp [lb__law_spoil_2, tyD, isB, e, hz', tupT, z2]
theorem good__law_spoil : ∀ t, okSpoil t = true → ∃ ρ', fb__law_spoil (some t :: List.replicate (["paper", "item", "inner"].length - 1) none) = some (.nx ρ') := by
  intro t h
  match t, h with
  | .tup l, h =>
    simp only [okSpoil] at h
    obtain ⟨ρ', e, _⟩ := forF_inv (tg := tgName 1) (B := lb__law_spoil_2) (fun ts ρ => (∃ x b, ρ = [none, x, b]) ∧ ts.all okItem = true) (fun t ts ρ ⟨⟨x, b, er⟩, g⟩ => by
      subst er
      simp only [List.all_cons, Bool.and_eq_true] at g
      obtain ⟨x', c, e⟩ := spoil_item b g.1
      exact ⟨_, _, rfl, .inl e, ⟨x', c, rfl⟩, g.2⟩) l [none, none, none] ⟨⟨none, none, rfl⟩, h⟩
    refine ⟨ρ', ?_⟩
    show (match forF (tgName 1) lb__law_spoil_2 l [none, none, none] with | some (Out.nx ρ') => some (Out.nx ρ') | _ => none) = some (Out.nx ρ')
    rw [e]
theorem ok__law_spoil (T : Txt K mg) : FnOk P w K mg base (L2.CX P w) 1 T.a__law_spoil T.fd__law_spoil ["paper"] (spClob K okSpoil) := fn_okClob T.F__law_spoil sc__law_spoil (fun cdv A outer s H E hr C => (by
  exact (dss_one (ds_eatT 0 C (dg_name 1 C.nd)
  (dss_one (ds_if (dt_val (de_isi (n := "list") (by decide) (dr_var 1) (by rfl) T.n_isinstance boot_isinstance (by rfl) T.n_list boot_list))
  (dss_cons (ds_eatL 1 C (dg_name 2 C.nd)
  (dss_one (ds_if (DW.pt (dw_and (dt_val (de_isi (n := "tuple") (by decide) (dr_var 2) (by rfl) T.n_isinstance boot_isinstance (by rfl) T.n_tuple boot_tuple)) (dw_and1 (dt_cmp (op_eq.or (op_eqD hr.units)) (OpV.d opv_eq) (de_callB (fr := false) call_len (CallV.d callv_len) (by rfl) T.n_len PySem.boot_len (da_cons (dr_var 2) da_nil)) de_int (nomark _)))))
  (dss_one (ds_append (dp_ixT (fun _ _ => rfl) (dp_var 2) de_int) (DE.frz (de_tup (da_cons de_int (da_cons de_str (da_cons de_int da_nil)))))))
  dss_nil)))
  (dss_one (ds_append (dp_var 1) (DE.frz (de_tup (da_cons de_str (da_cons de_int da_nil)))))))
  dss_nil)))))) good__law_spoil
theorem sc_entry_lines : FnScope ["entry", "names", "row", "carried", "movement", "head"] ["entry"] (defScope s_entry_lines) := ⟨rfl, rfl, rfl, by decide +kernel, rfl, by decide +kernel, by decide +kernel⟩
noncomputable def fb_entry_lines : FS := (seqF (asgF (tgTup 4 [(tgName 1), (tgName 2), (tgName 3), (tgName 4)]) (frzV (vr 0)))
  (seqF (setF 5 (frzV (opA lstT (consA (callF fn_item_line (consA (cst (.str "troubles")) (consA (vr 1) nilA))) (consA (callF fn_item_line (consA (cst (.str "people")) (consA (vr 2) nilA))) (consA (callF fn_item_line (consA (cst (.str "carried")) (consA (vr 3) nilA))) nilA))))))
  (retF (op2 addT (rdVar 5) (frzV (callF fn_triple_lines (consA (vr 4) nilA)))))))
noncomputable def fn_entry_lines : FD := fnF 6 fb_entry_lines
theorem ok_entry_lines (T : Txt K mg) : FnOk P w K mg base (L2.CX P w) 2 T.a_entry_lines T.fd_entry_lines ["entry"] (spD 1 K fn_entry_lines) := fn_ok T.F_entry_lines sc_entry_lines fun cdv A outer s H E hr C => (by
  exact (dss_cons (ds_asg (DE.frz (de_var' 0)) (dg_tup (n := 4) C.calm (dgs_cons (dg_name 1 C.nd) (dgs_cons (dg_name 2 C.nd) (dgs_cons (dg_name 3 C.nd) (dgs_cons (dg_name 4 C.nd) dgs_nil))))))
  (dss_cons (ds_set 5 C.nd (DE.frz (de_lst (da_cons (de_call C (ok_item_line T) (hr.mono (by decide)) T.m_item_line T.F_item_line.kp T.b_item_line (da_cons de_str (da_cons (de_var' 1) da_nil)) (consA_len (consA_len nilA_len))) (da_cons (de_call C (ok_item_line T) (hr.mono (by decide)) T.m_item_line T.F_item_line.kp T.b_item_line (da_cons de_str (da_cons (de_var' 2) da_nil)) (consA_len (consA_len nilA_len))) (da_cons (de_call C (ok_item_line T) (hr.mono (by decide)) T.m_item_line T.F_item_line.kp T.b_item_line (da_cons de_str (da_cons (de_var' 3) da_nil)) (consA_len (consA_len nilA_len))) da_nil))))))
  (dss_one (ds_ret (de_op opr_add opd_add (dr_var 5) (DE.frz (de_call C (ok_triple_lines T) (hr.mono (by decide)) T.m_triple_lines T.F_triple_lines.kp T.b_triple_lines (da_cons (de_var' 4) da_nil) (consA_len nilA_len)))))))))
noncomputable def lb_read_names_1 : FS := (ifF (notB (toB (callF fn_is_name (consA (vr 3) nilA))))
  neverF
  nextF)
theorem sc_read_names : FnScope ["lines", "at", "words", "word"] ["lines", "at"] (defScope s_read_names) := ⟨rfl, rfl, rfl, by decide +kernel, rfl, by decide +kernel, by decide +kernel⟩
noncomputable def fb_read_names : FS := (seqF (setF 2 (frzV (callF fn_words_behind (consA (vr 0) (consA (vr 1) (consA (cst (.str "troubles")) nilA))))))
  (seqF (forL (tgName 3)
  lb_read_names_1 (vr 2))
  (retF (opA tupleT (consA (rdVar 2) nilA)))))
noncomputable def fn_read_names : FD := fnF 4 fb_read_names
theorem ok_read_names (T : Txt K mg) : FnOk P w K mg base (L2.CX P w) 2 T.a_read_names T.fd_read_names ["lines", "at"] (spD 2 K fn_read_names) := fn_ok T.F_read_names sc_read_names fun cdv A outer s H E hr C => (by
  exact (dss_cons (ds_set 2 C.nd (DE.frz (de_call C (ok_words_behind T) (hr.mono (by decide)) T.m_words_behind T.F_words_behind.kp T.b_words_behind (da_cons (de_var' 0) (da_cons (de_var' 1) (da_cons de_str da_nil))) (consA_len (consA_len (consA_len nilA_len))))))
  (dss_cons (ds_forL C (de_var' 2) (dg_name 3 C.nd)
  (dss_one (ds_if (dt_not (dt_val (de_call C (ok_is_name T) (hr.mono (by decide)) T.m_is_name T.F_is_name.kp T.b_is_name (da_cons (de_var' 3) da_nil) (consA_len nilA_len))))
  (dss_one ds_never)
  dss_nil)))
  (dss_one (ds_ret (de_callTy (fr := false) call_tuple_of calld_tuple (by rfl) T.n_tuple boot_tuple (da_cons (dr_var 2) da_nil)))))))
noncomputable def lb_read_numbers_1 : FS := (ifF (notB (toB (callF fn_is_number (consA (vr 4) nilA))))
  neverF
  nextF)
noncomputable def le_read_numbers_1 : FE := (opA (vcall intD1) (consA (rdVar 4) nilA))
theorem sc_read_numbers : FnScope ["lines", "at", "first", "words", "word"] ["lines", "at", "first"] (defScope s_read_numbers) := ⟨rfl, rfl, rfl, by decide +kernel, rfl, by decide +kernel, by decide +kernel⟩
noncomputable def fb_read_numbers : FS := (seqF (setF 3 (frzV (callF fn_words_behind (consA (vr 0) (consA (vr 1) (consA (vr 2) nilA))))))
  (seqF (forL (tgName 4)
  lb_read_numbers_1 (vr 3))
  (retF (opA tupleT (consA (compE listD [4] (tgName 4) yesB le_read_numbers_1 (vr 3)) nilA)))))
noncomputable def fn_read_numbers : FD := fnF 5 fb_read_numbers
theorem ok_read_numbers (T : Txt K mg) : FnOk P w K mg base (L2.CX P w) 2 T.a_read_numbers T.fd_read_numbers ["lines", "at", "first"] (spD 3 K fn_read_numbers) := fn_ok T.F_read_numbers sc_read_numbers fun cdv A outer s H E hr C => (by
  exact (dss_cons (ds_set 3 C.nd (DE.frz (de_call C (ok_words_behind T) (hr.mono (by decide)) T.m_words_behind T.F_words_behind.kp T.b_words_behind (da_cons (de_var' 0) (da_cons (de_var' 1) (da_cons (de_var' 2) da_nil))) (consA_len (consA_len (consA_len nilA_len))))))
  (dss_cons (ds_forL C (de_var' 3) (dg_name 4 C.nd)
  (dss_one (ds_if (dt_not (dt_val (de_call C (ok_is_number T) (hr.mono (by decide)) T.m_is_number T.F_is_number.kp T.b_is_number (da_cons (de_var' 4) da_nil) (consA_len nilA_len))))
  (dss_one ds_never)
  dss_nil)))
  (dss_one (ds_ret (de_callTy (fr := false) call_tuple_of calld_tuple (by rfl) T.n_tuple boot_tuple (da_cons (dv_lcL (own := [("word", 4)]) C (de_var' 3) (blkOk_by (N := ["lines", "at", "first", "words", "word"]) (sc := defScope s_read_numbers) (own := [("word", 4)]) (by decide +kernel)) (fun _ _ _ _ _ => (dgc_name 4 (ctx_blk C).nd)) (fun _ _ _ _ _ => dc_nil) (fun _ _ _ _ _ => (de_callTy (fr := false) cr_int (CallV.d callv_int) (by rfl) T.n_int boot_int (da_cons (dr_var 4) da_nil)))).de.weak da_nil)))))))
theorem sc_read_triple : FnScope ["lines", "at", "words"] ["lines", "at"] (defScope s_read_triple) := ⟨rfl, rfl, rfl, by decide +kernel, rfl, by decide +kernel, by decide +kernel⟩
noncomputable def fb_read_triple : FS := (seqF (setF 2 (frzV (m1F splitT (op2 ixT (rdVar 0) (rdVar 1)) (cst (.str " ")))))
  (seqF (ifF (orB (toB (op2 (vop neD) (opA (vcall lenD) (consA (rdVar 2) nilA)) (cst (.int 3)))) (orB (notB (toB (callF fn_is_number (consA (shE (op2 ixT (rdVar 2) (cst (.int 0)))) nilA)))) (orB (notB (toB (callF fn_is_name (consA (shE (op2 ixT (rdVar 2) (cst (.int 1)))) nilA)))) (notB (toB (callF fn_is_number (consA (shE (op2 ixT (rdVar 2) (cst (.int 2)))) nilA)))))))
  neverF
  nextF)
  (retF (opA tupT (consA (opA (vcall intD1) (consA (op2 ixT (rdVar 2) (cst (.int 0))) nilA)) (consA (shE (op2 ixT (rdVar 2) (cst (.int 1)))) (consA (opA (vcall intD1) (consA (op2 ixT (rdVar 2) (cst (.int 2))) nilA)) nilA)))))))
noncomputable def fn_read_triple : FD := fnF 3 fb_read_triple
theorem ok_read_triple (T : Txt K mg) : FnOk P w K mg base (L2.CX P w) 2 T.a_read_triple T.fd_read_triple ["lines", "at"] (spD 2 K fn_read_triple) := fn_ok T.F_read_triple sc_read_triple fun cdv A outer s H E hr C => (by
  exact (dss_cons (ds_set 2 C.nd (DE.frz (de_split (dr_ix ix_seq opp_ix (fun _ _ => rfl) (dr_var 0) (dr_var 1)) de_str)))
  (dss_cons (ds_if (DW.pt (dw_or (dt_cmp (op_ne.or (op_neD hr.units)) (OpV.d opv_ne) (de_callB (fr := false) call_len (CallV.d callv_len) (by rfl) T.n_len PySem.boot_len (da_cons (dr_var 2) da_nil)) de_int (nomark _)) (dw_or (dt_not (dt_val (de_call C (ok_is_number T) (hr.mono (by decide)) T.m_is_number T.F_is_number.kp T.b_is_number (da_cons (DE.sh' (dr_ix ix_seq opp_ix (fun _ _ => rfl) (dr_var 2) de_int)) da_nil) (consA_len nilA_len)))) (dw_or (dt_not (dt_val (de_call C (ok_is_name T) (hr.mono (by decide)) T.m_is_name T.F_is_name.kp T.b_is_name (da_cons (DE.sh' (dr_ix ix_seq opp_ix (fun _ _ => rfl) (dr_var 2) de_int)) da_nil) (consA_len nilA_len)))) (dw_or1 (dt_not (dt_val (de_call C (ok_is_number T) (hr.mono (by decide)) T.m_is_number T.F_is_number.kp T.b_is_number (da_cons (DE.sh' (dr_ix ix_seq opp_ix (fun _ _ => rfl) (dr_var 2) de_int)) da_nil) (consA_len nilA_len)))))))))
  (dss_one ds_never)
  dss_nil)
  (dss_one (ds_ret (de_tup (da_cons (de_callTy (fr := false) cr_int (CallV.d callv_int) (by rfl) T.n_int boot_int (da_cons (dr_ix ix_seq opp_ix (fun _ _ => rfl) (dr_var 2) de_int) da_nil)) (da_cons (DE.sh' (dr_ix ix_seq opp_ix (fun _ _ => rfl) (dr_var 2) de_int)) (da_cons (de_callTy (fr := false) cr_int (CallV.d callv_int) (by rfl) T.n_int boot_int (da_cons (dr_ix ix_seq opp_ix (fun _ _ => rfl) (dr_var 2) de_int) da_nil)) da_nil)))))))))
theorem sc_read_pair : FnScope ["lines", "at", "words"] ["lines", "at"] (defScope s_read_pair) := ⟨rfl, rfl, rfl, by decide +kernel, rfl, by decide +kernel, by decide +kernel⟩
noncomputable def fb_read_pair : FS := (seqF (setF 2 (frzV (m1F splitT (op2 ixT (rdVar 0) (rdVar 1)) (cst (.str " ")))))
  (seqF (ifF (orB (toB (op2 (vop neD) (opA (vcall lenD) (consA (rdVar 2) nilA)) (cst (.int 2)))) (orB (notB (toB (callF fn_is_name (consA (shE (op2 ixT (rdVar 2) (cst (.int 0)))) nilA)))) (notB (toB (callF fn_is_number (consA (shE (op2 ixT (rdVar 2) (cst (.int 1)))) nilA))))))
  neverF
  nextF)
  (retF (opA tupT (consA (shE (op2 ixT (rdVar 2) (cst (.int 0)))) (consA (opA (vcall intD1) (consA (op2 ixT (rdVar 2) (cst (.int 1))) nilA)) nilA))))))
noncomputable def fn_read_pair : FD := fnF 3 fb_read_pair
theorem ok_read_pair (T : Txt K mg) : FnOk P w K mg base (L2.CX P w) 2 T.a_read_pair T.fd_read_pair ["lines", "at"] (spD 2 K fn_read_pair) := fn_ok T.F_read_pair sc_read_pair fun cdv A outer s H E hr C => (by
  exact (dss_cons (ds_set 2 C.nd (DE.frz (de_split (dr_ix ix_seq opp_ix (fun _ _ => rfl) (dr_var 0) (dr_var 1)) de_str)))
  (dss_cons (ds_if (DW.pt (dw_or (dt_cmp (op_ne.or (op_neD hr.units)) (OpV.d opv_ne) (de_callB (fr := false) call_len (CallV.d callv_len) (by rfl) T.n_len PySem.boot_len (da_cons (dr_var 2) da_nil)) de_int (nomark _)) (dw_or (dt_not (dt_val (de_call C (ok_is_name T) (hr.mono (by decide)) T.m_is_name T.F_is_name.kp T.b_is_name (da_cons (DE.sh' (dr_ix ix_seq opp_ix (fun _ _ => rfl) (dr_var 2) de_int)) da_nil) (consA_len nilA_len)))) (dw_or1 (dt_not (dt_val (de_call C (ok_is_number T) (hr.mono (by decide)) T.m_is_number T.F_is_number.kp T.b_is_number (da_cons (DE.sh' (dr_ix ix_seq opp_ix (fun _ _ => rfl) (dr_var 2) de_int)) da_nil) (consA_len nilA_len))))))))
  (dss_one ds_never)
  dss_nil)
  (dss_one (ds_ret (de_tup (da_cons (DE.sh' (dr_ix ix_seq opp_ix (fun _ _ => rfl) (dr_var 2) de_int)) (da_cons (de_callTy (fr := false) cr_int (CallV.d callv_int) (by rfl) T.n_int boot_int (da_cons (dr_ix ix_seq opp_ix (fun _ _ => rfl) (dr_var 2) de_int) da_nil)) da_nil))))))))
noncomputable def lb__law_word_1 : FS := (setF 3 (frzV (op2 addT (rdVar 3) (op2 ixT (rdVar 2) (callF fn__law_draw (consA (vr 0) (consA (op2 addT (op2 addT (rdVar 1) (cst (.int 2))) (rdVar 4)) (consA (cst (.int 36)) nilA))))))))
theorem sc__law_word : FnScope ["script", "k", "letters", "word", "turn"] ["script", "k"] (defScope s__law_word) := ⟨rfl, rfl, rfl, by decide +kernel, rfl, by decide +kernel, by decide +kernel⟩
noncomputable def fb__law_word : FS := (seqF (setF 2 (cst (.str "abcdefghijklmnopqrstuvwxyz0123456789")))
  (seqF (setF 3 (frzV (shE (op2 ixT (rdVar 2) (callF fn__law_draw (consA (vr 0) (consA (op2 addT (rdVar 1) (cst (.int 1))) (consA (cst (.int 26)) nilA))))))))
  (seqF (forR1 (tgName 4)
  lb__law_word_1 (callF fn__law_draw (consA (vr 0) (consA (vr 1) (consA (cst (.int 12)) nilA)))))
  (retMv 3))))
noncomputable def fn__law_word : FD := fnF 5 fb__law_word
theorem ok__law_word (T : Txt K mg) : FnOk P w K mg base (L2.CX P w) 2 T.a__law_word T.fd__law_word ["script", "k"] (spD 2 K fn__law_word) := fn_ok T.F__law_word sc__law_word fun cdv A outer s H E hr C => (by
  exact (dss_cons (ds_set 2 C.nd de_str)
  (dss_cons (ds_set 3 C.nd (DE.frz (DE.sh' (dr_ix ix_seq opp_ix (fun _ _ => rfl) (dr_var 2) (de_call C (ok__law_draw T) (hr.mono (by decide)) T.m__law_draw T.F__law_draw.kp T.b__law_draw (da_cons (de_var' 0) (da_cons (de_op opr_add opd_add (dr_var 1) de_int) (da_cons de_int da_nil))) (consA_len (consA_len (consA_len nilA_len))))))))
  (dss_cons (ds_forR1 C (by rfl) T.n_range (de_call C (ok__law_draw T) (hr.mono (by decide)) T.m__law_draw T.F__law_draw.kp T.b__law_draw (da_cons (de_var' 0) (da_cons (de_var' 1) (da_cons de_int da_nil))) (consA_len (consA_len (consA_len nilA_len)))) (dg_name 4 C.nd)
  (dss_one (ds_set 3 C.nd (DE.frz (de_op opr_add opd_add (dr_var 3) (dr_ix ix_seq opp_ix (fun _ _ => rfl) (dr_var 2) (de_call C (ok__law_draw T) (hr.mono (by decide)) T.m__law_draw T.F__law_draw.kp T.b__law_draw (da_cons (de_var' 0) (da_cons (de_op opr_add opd_add (de_op opr_add opd_add (dr_var 1) de_int) (dr_var 4)) (da_cons de_int da_nil))) (consA_len (consA_len (consA_len nilA_len))))))))))
  (dss_one (ds_retMv 3))))))
theorem sc__law_amount : FnScope ["script", "k", "other", "limit"] ["script", "k"] (defScope s__law_amount) := ⟨rfl, rfl, rfl, by decide +kernel, rfl, by decide +kernel, by decide +kernel⟩
noncomputable def fb__law_amount : FS := (seqF (setF 2 (frzV (callF fn__law_draw (consA (vr 0) (consA (op2 addT (rdVar 1) (cst (.int 1))) (consA (cst (.int 480)) nilA))))))
  (seqF (setF 3 (frzV (shE (op2 ixT (opA lstT (consA (cst (.int 1)) (consA (cst (.int 10)) (consA (cst (.int 100)) (consA (cst (.int 1000)) (consA (cst (.int 10000)) (consA (cst (.int 100000)) nilA))))))) (op2 (vop modD) (rdVar 2) (cst (.int 6)))))))
  (seqF (ifF (toB (op2 (vop eqD) (op2 (vop fdivD) (rdVar 2) (cst (.int 60))) (cst (.int 0))))
  (retF (op2 (vop subD) (rdVar 3) (cst (.int 1))))
  nextF)
  (retF (op2 (vop modD) (opA (vcall intD1) (consA (op2 addT (op2 mulT (op2 (vop modD) (op2 (vop fdivD) (rdVar 2) (cst (.int 6))) (cst (.int 10))) (cst (.int 10000))) (frzV (callF fn__law_draw (consA (vr 0) (consA (vr 1) (consA (cst (.int 10000)) nilA)))))) nilA)) (rdVar 3))))))
noncomputable def fn__law_amount : FD := fnF 4 fb__law_amount
theorem ok__law_amount (T : Txt K mg) : FnOk P w K mg base (L2.CX P w) 2 T.a__law_amount T.fd__law_amount ["script", "k"] (spD 2 K fn__law_amount) := fn_ok T.F__law_amount sc__law_amount fun cdv A outer s H E hr C => (by
  exact (dss_cons (ds_set 2 C.nd (DE.frz (de_call C (ok__law_draw T) (hr.mono (by decide)) T.m__law_draw T.F__law_draw.kp T.b__law_draw (da_cons (de_var' 0) (da_cons (de_op opr_add opd_add (dr_var 1) de_int) (da_cons de_int da_nil))) (consA_len (consA_len (consA_len nilA_len))))))
  (dss_cons (ds_set 3 C.nd (DE.frz (DE.sh' (dr_ix ix_seq opp_ix (fun _ _ => rfl) (de_lst (da_cons de_int (da_cons de_int (da_cons de_int (da_cons de_int (da_cons de_int (da_cons de_int da_nil))))))) (de_op op_mod (OpV.d opv_mod) (dr_var 2) de_int)))))
  (dss_cons (ds_if (dt_cmp (op_eq.or (op_eqD hr.units)) (OpV.d opv_eq) (de_op op_fdiv (OpV.d opv_fdiv) (dr_var 2) de_int) de_int (nomark _))
  (dss_one (ds_ret (de_op op_sub (OpV.d opv_sub) (dr_var 3) de_int)))
  dss_nil)
  (dss_one (ds_ret (de_op op_mod (OpV.d opv_mod) (de_callTy (fr := false) cr_int (CallV.d callv_int) (by rfl) T.n_int boot_int (da_cons (de_op opr_add opd_add (de_op opr_mul opd_mul (de_op op_mod (OpV.d opv_mod) (de_op op_fdiv (OpV.d opv_fdiv) (dr_var 2) de_int) de_int) de_int) (DE.frz (de_call C (ok__law_draw T) (hr.mono (by decide)) T.m__law_draw T.F__law_draw.kp T.b__law_draw (da_cons (de_var' 0) (da_cons (de_var' 1) (da_cons de_int da_nil))) (consA_len (consA_len (consA_len nilA_len)))))).weak da_nil)) (dr_var 3))))))))
noncomputable def le__law_names_1 : FE := (frzV (shE (op2 ixT (rdVar 3) (callF fn__law_draw (consA (vr 0) (consA (op2 addT (rdVar 1) (rdVar 4)) (consA (opA (vcall lenD) (consA (rdVar 3) nilA)) nilA)))))))
theorem sc__law_names : FnScope ["script", "k", "count", "pool", "at"] ["script", "k", "count", "pool"] (defScope s__law_names) := ⟨rfl, rfl, rfl, by decide +kernel, rfl, by decide +kernel, by decide +kernel⟩
noncomputable def fb__law_names : FS := (retF (opA tupleT (consA (compR [4] (tgName 4) yesB le__law_names_1 (cst (.int 0)) (rdVar 2)) nilA)))
noncomputable def fn__law_names : FD := fnF 5 fb__law_names
theorem ok__law_names (T : Txt K mg) : FnOk P w K mg base (L2.CX P w) 2 T.a__law_names T.fd__law_names ["script", "k", "count", "pool"] (spD 4 K fn__law_names) := fn_ok T.F__law_names sc__law_names fun cdv A outer s H E hr C => (by
  exact (dss_one (ds_ret (de_callTy (fr := false) call_tuple_of calld_tuple (by rfl) T.n_tuple boot_tuple (da_cons (dv_lcR1 (own := [("at", 4)]) C (by rfl) T.n_range (dr_var 2) (blkOk_by (N := ["script", "k", "count", "pool", "at"]) (sc := defScope s__law_names) (own := [("at", 4)]) (by decide +kernel)) (fun _ _ _ _ _ => (dgc_name 4 (ctx_blk C).nd)) (fun _ _ _ _ _ => dc_nil) (fun _ _ _ _ _ => (DE.frz (DE.sh' (dr_ix ix_seq opp_ix (fun _ _ => rfl) (dr_var 3) (de_call (ctx_blk C) (ok__law_draw T) (hr.mono (by decide)) T.m__law_draw T.F__law_draw.kp T.b__law_draw (da_cons (de_var' 0) (da_cons (de_op opr_add opd_add (dr_var 1) (dr_var 4)) (da_cons (de_callB (fr := false) call_len (CallV.d callv_len) (by rfl) T.n_len PySem.boot_len (da_cons (dr_var 3) da_nil)) da_nil))) (consA_len (consA_len (consA_len nilA_len))))))))).de.weak da_nil)))))
noncomputable def lb__law_text_1 : FS := (appendF 1 (hereP 1) (joinF [(fmtF (op2 ixT (rdVar 4) (cst (.int 0)))), (cst (.str " ")), (fmtF (op2 ixT (rdVar 4) (cst (.int 1)))), (cst (.str " ")), (fmtF (op2 ixT (rdVar 4) (cst (.int 2))))] Str.empty))
noncomputable def lb__law_text_2 : FS := (seqF (appendF 1 (hereP 1) (frzV (callF fn__law_line (consA (cst (.str "troubles")) (consA (shE (op2 ixT (rdVar 2) (cst (.int 0)))) nilA)))))
  (seqF (appendF 1 (hereP 1) (frzV (callF fn__law_line (consA (cst (.str "people")) (consA (shE (op2 ixT (rdVar 2) (cst (.int 1)))) nilA)))))
  (seqF (appendF 1 (hereP 1) (frzV (callF fn__law_line (consA (cst (.str "carried")) (consA (shE (op2 ixT (rdVar 2) (cst (.int 2)))) nilA)))))
  (forL (tgName 4)
  lb__law_text_1 (shE (op2 ixT (rdVar 2) (cst (.int 3))))))))
noncomputable def lb__law_text_3 : FS := (appendF 1 (hereP 1) (frzV (callF fn__law_line (consA (opA (vcall strD) (consA (op2 ixT (rdVar 3) (cst (.int 0))) nilA)) (consA (slF cutTT (rdVar 3) (partF (cst (.int 1))) (fun _ => some (.ok none))) nilA)))))
theorem sc__law_text : FnScope ["paper", "lines", "entry", "item", "triple"] ["paper"] (defScope s__law_text) := ⟨rfl, rfl, rfl, by decide +kernel, rfl, by decide +kernel, by decide +kernel⟩
noncomputable def fb__law_text : FS := (seqF (setF 1 (opA lstT (consA (shE (op2 ixT (rdVar 0) (cst (.int 0)))) nilA)))
  (seqF (ifF (toB (op2 (vop eqD) (op2 ixT (rdVar 0) (cst (.int 0))) (cst (.str "course"))))
  (seqF (appendF 1 (hereP 1) (frzV (callF fn__law_line (consA (cst (.str "troubles")) (consA (shE (op2 ixT (rdVar 0) (cst (.int 1)))) nilA)))))
  (appendF 1 (hereP 1) (frzV (callF fn__law_line (consA (cst (.str "people")) (consA (shE (op2 ixT (rdVar 0) (cst (.int 2)))) nilA))))))
  nextF)
  (seqF (ifF (toB (op2 (vop eqD) (op2 ixT (rdVar 0) (cst (.int 0))) (cst (.str "cover"))))
  (forL (tgName 2)
  lb__law_text_2 (shE (op2 ixT (rdVar 0) (cst (.int 1)))))
  (forL (tgName 3)
  lb__law_text_3 (shE (op2 ixT (rdVar 0) (op2 (vop subD) (opA (vcall lenD) (consA (rdVar 0) nilA)) (cst (.int 1)))))))
  (retF (m1F joinT (cst (.str "\n")) (rdVar 1))))))
noncomputable def fn__law_text : FD := fnF 5 fb__law_text
theorem ok__law_text (T : Txt K mg) : FnOk P w K mg base (L2.CX P w) 2 T.a__law_text T.fd__law_text ["paper"] (spD 1 K fn__law_text) := fn_ok T.F__law_text sc__law_text fun cdv A outer s H E hr C => (by
  exact (dss_cons (ds_set 1 C.nd (de_lst (da_cons (DE.sh' (dr_ix ix_seq opp_ix (fun _ _ => rfl) (dr_var 0) de_int)) da_nil)))
  (dss_cons (ds_if (dt_cmp (op_eq.or (op_eqD hr.units)) (OpV.d opv_eq) (dr_ix ix_seq opp_ix (fun _ _ => rfl) (dr_var 0) de_int) de_str (nomark _))
  (dss_cons (ds_append (dp_var 1) (DE.frz (de_call C (ok__law_line T) (hr.mono (by decide)) T.m__law_line T.F__law_line.kp T.b__law_line (da_cons de_str (da_cons (DE.sh' (dr_ix ix_seq opp_ix (fun _ _ => rfl) (dr_var 0) de_int)) da_nil)) (consA_len (consA_len nilA_len)))))
  (dss_one (ds_append (dp_var 1) (DE.frz (de_call C (ok__law_line T) (hr.mono (by decide)) T.m__law_line T.F__law_line.kp T.b__law_line (da_cons de_str (da_cons (DE.sh' (dr_ix ix_seq opp_ix (fun _ _ => rfl) (dr_var 0) de_int)) da_nil)) (consA_len (consA_len nilA_len)))))))
  dss_nil)
  (dss_cons (ds_if (dt_cmp (op_eq.or (op_eqD hr.units)) (OpV.d opv_eq) (dr_ix ix_seq opp_ix (fun _ _ => rfl) (dr_var 0) de_int) de_str (nomark _))
  (dss_one (ds_forL C (DE.sh' (dr_ix ix_seq opp_ix (fun _ _ => rfl) (dr_var 0) de_int)) (dg_name 2 C.nd)
  (dss_cons (ds_append (dp_var 1) (DE.frz (de_call C (ok__law_line T) (hr.mono (by decide)) T.m__law_line T.F__law_line.kp T.b__law_line (da_cons de_str (da_cons (DE.sh' (dr_ix ix_seq opp_ix (fun _ _ => rfl) (dr_var 2) de_int)) da_nil)) (consA_len (consA_len nilA_len)))))
  (dss_cons (ds_append (dp_var 1) (DE.frz (de_call C (ok__law_line T) (hr.mono (by decide)) T.m__law_line T.F__law_line.kp T.b__law_line (da_cons de_str (da_cons (DE.sh' (dr_ix ix_seq opp_ix (fun _ _ => rfl) (dr_var 2) de_int)) da_nil)) (consA_len (consA_len nilA_len)))))
  (dss_cons (ds_append (dp_var 1) (DE.frz (de_call C (ok__law_line T) (hr.mono (by decide)) T.m__law_line T.F__law_line.kp T.b__law_line (da_cons de_str (da_cons (DE.sh' (dr_ix ix_seq opp_ix (fun _ _ => rfl) (dr_var 2) de_int)) da_nil)) (consA_len (consA_len nilA_len)))))
  (dss_one (ds_forL C (DE.sh' (dr_ix ix_seq opp_ix (fun _ _ => rfl) (dr_var 2) de_int)) (dg_name 4 C.nd)
  (dss_one (ds_append (dp_var 1) (de_fstr (.cons (de_fmt (dr_ix ix_seq opp_ix (fun _ _ => rfl) (dr_var 4) de_int)) (.cons de_str (.cons (de_fmt (dr_ix ix_seq opp_ix (fun _ _ => rfl) (dr_var 4) de_int)) (.cons de_str (.cons (de_fmt (dr_ix ix_seq opp_ix (fun _ _ => rfl) (dr_var 4) de_int)) .nil)))))))))))))))
  (dss_one (ds_forL C (DE.sh' (dr_ix ix_seq opp_ix (fun _ _ => rfl) (dr_var 0) (de_op op_sub (OpV.d opv_sub) (de_callB (fr := false) call_len (CallV.d callv_len) (by rfl) T.n_len PySem.boot_len (da_cons (dr_var 0) da_nil)) de_int))) (dg_name 3 C.nd)
  (dss_one (ds_append (dp_var 1) (DE.frz (de_call C (ok__law_line T) (hr.mono (by decide)) T.m__law_line T.F__law_line.kp T.b__law_line (da_cons (de_callTy (fr := false) cr_str (CallV.d callv_str) (by rfl) T.n_str boot_str (da_cons (dr_ix ix_seq opp_ix (fun _ _ => rfl) (dr_var 3) de_int) da_nil)) (da_cons (de_slice sl_tupA sld_tup (dr_var 3) (do_some de_int) do_none) da_nil)) (consA_len (consA_len nilA_len)))))))))
  (dss_one (ds_ret (de_join de_str (dr_var 1))))))))
noncomputable def lb__law_alike_1 (R : FD) : FS := (ifF (notB (toB (callF R (consA (shE (op2 ixT (rdVar 0) (rdVar 2))) (consA (shE (op2 ixT (rdVar 1) (rdVar 2))) nilA)))))
  (retF (cst (.bl false)))
  nextF)
theorem sc__law_alike : FnScope ["value", "due", "at"] ["value", "due"] (defScope s__law_alike) := ⟨rfl, rfl, rfl, by decide +kernel, rfl, by decide +kernel, by decide +kernel⟩
noncomputable def fb__law_alike (R : FD) : FS := (seqF (ifF (toB (isiF "str" (rdVar 1)))
  (retF (andV (isiF "str" (rdVar 0)) (op2 (vop eqD) (rdVar 0) (rdVar 1))))
  nextF)
  (seqF (ifF (toB (isiF "int" (rdVar 1)))
  (retF (andV (callF fn__law_is_number (consA (vr 0) nilA)) (op2 (vop eqD) (rdVar 0) (rdVar 1))))
  nextF)
  (seqF (ifF (andB (toB (isiF "tuple" (rdVar 1))) (notB (toB (isiF "tuple" (rdVar 0)))))
  (retF (cst (.bl false)))
  nextF)
  (seqF (ifF (andB (toB (isiF "list" (rdVar 1))) (notB (toB (isiF "list" (rdVar 0)))))
  (retF (cst (.bl false)))
  nextF)
  (seqF (ifF (toB (op2 (vop neD) (opA (vcall lenD) (consA (rdVar 0) nilA)) (opA (vcall lenD) (consA (rdVar 1) nilA))))
  (retF (cst (.bl false)))
  nextF)
  (seqF (forR1 (tgName 2)
  (lb__law_alike_1 R) (opA (vcall lenD) (consA (rdVar 1) nilA)))
  (retF (cst (.bl true)))))))))
noncomputable def fn__law_alike : Nat → FD
  | 0 => fun _ => none
  | n + 1 => fnF 3 (fb__law_alike (fn__law_alike n))
theorem ok__law_alike (T : Txt K mg) : ∀ n : Nat, FnOk P w K mg base (L2.CX P w) (n + 2) T.a__law_alike T.fd__law_alike ["value", "due"] (spD 2 K (fn__law_alike n))
  | 0 => ⟨fun vs H Q E h => spD_len vs H Q E h, fun A outer s H args us vs Q E hr he hb hv hs => by obtain ⟨G, ds, _, _, _, h⟩ := hs; exact h.elim⟩
  | n + 1 => fn_ok T.F__law_alike sc__law_alike fun cdv A outer s H E hr C => (by
    have ihR := ok__law_alike T n
    exact (dss_cons (ds_if (dt_val (de_isi (n := "str") (by decide) (dr_var 1) (by rfl) T.n_isinstance boot_isinstance (by rfl) T.n_str boot_str))
  (dss_one (ds_ret (de_and (de_isi (n := "str") (by decide) (dr_var 0) (by rfl) T.n_isinstance boot_isinstance (by rfl) T.n_str boot_str) (de_one (de_cmp (op_eq.or (op_eqD hr.units)) (OpV.d opv_eq) (dr_var 0) (dr_var 1) (nomark _))))))
  dss_nil)
  (dss_cons (ds_if (dt_val (de_isi (n := "int") (by decide) (dr_var 1) (by rfl) T.n_isinstance boot_isinstance (by rfl) T.n_int boot_int))
  (dss_one (ds_ret (de_and (de_call C (ok__law_is_number T) (hr.mono (by omega)) T.m__law_is_number T.F__law_is_number.kp T.b__law_is_number (da_cons (de_var' 0) da_nil) (consA_len nilA_len)) (de_one (de_cmp (op_eq.or (op_eqD hr.units)) (OpV.d opv_eq) (dr_var 0) (dr_var 1) (nomark _))))))
  dss_nil)
  (dss_cons (ds_if (DW.pt (dw_and (dt_val (de_isi (n := "tuple") (by decide) (dr_var 1) (by rfl) T.n_isinstance boot_isinstance (by rfl) T.n_tuple boot_tuple)) (dw_and1 (dt_not (dt_val (de_isi (n := "tuple") (by decide) (dr_var 0) (by rfl) T.n_isinstance boot_isinstance (by rfl) T.n_tuple boot_tuple))))))
  (dss_one (ds_ret de_bl))
  dss_nil)
  (dss_cons (ds_if (DW.pt (dw_and (dt_val (de_isi (n := "list") (by decide) (dr_var 1) (by rfl) T.n_isinstance boot_isinstance (by rfl) T.n_list boot_list)) (dw_and1 (dt_not (dt_val (de_isi (n := "list") (by decide) (dr_var 0) (by rfl) T.n_isinstance boot_isinstance (by rfl) T.n_list boot_list))))))
  (dss_one (ds_ret de_bl))
  dss_nil)
  (dss_cons (ds_if (dt_cmp (op_ne.or (op_neD hr.units)) (OpV.d opv_ne) (de_callB (fr := false) call_len (CallV.d callv_len) (by rfl) T.n_len PySem.boot_len (da_cons (dr_var 0) da_nil)) (de_callB (fr := false) call_len (CallV.d callv_len) (by rfl) T.n_len PySem.boot_len (da_cons (dr_var 1) da_nil)) (nomark _))
  (dss_one (ds_ret de_bl))
  dss_nil)
  (dss_cons (ds_forR1 C (by rfl) T.n_range (de_callB (fr := false) call_len (CallV.d callv_len) (by rfl) T.n_len PySem.boot_len (da_cons (dr_var 1) da_nil)) (dg_name 2 C.nd)
  (dss_one (ds_if (dt_not (dt_val (de_call C ihR hr T.m__law_alike T.F__law_alike.kp T.b__law_alike (da_cons (DE.sh' (dr_ix ix_seq opp_ix (fun _ _ => rfl) (dr_var 0) (dr_var 2))) (da_cons (DE.sh' (dr_ix ix_seq opp_ix (fun _ _ => rfl) (dr_var 1) (dr_var 2))) da_nil)) (consA_len (consA_len nilA_len)))))
  (dss_one (ds_ret de_bl))
  dss_nil)))
  (dss_one (ds_ret de_bl)))))))))
noncomputable def lb_write_paper_1 : FS := (extendF 2 (hereP 2) (callF fn_entry_lines (consA (vr 3) nilA)))
theorem sc_write_paper : FnScope ["paper", "kind", "lines", "entry"] ["paper"] (defScope s_write_paper) := ⟨rfl, rfl, rfl, by decide +kernel, rfl, by decide +kernel, by decide +kernel⟩
noncomputable def fb_write_paper : FS := (seqF (setF 1 (frzV (shE (op2 ixT (rdVar 0) (cst (.int 0))))))
  (seqF (setF 2 (opA lstT (consA (vr 1) nilA)))
  (seqF (ifF (toB (op2 (vop eqD) (rdVar 1) (cst (.str "movement"))))
  (extendF 2 (hereP 2) (callF fn_triple_lines (consA (shE (op2 ixT (rdVar 0) (cst (.int 1)))) nilA)))
  (ifF (toB (op2 (vop eqD) (rdVar 1) (cst (.str "cut"))))
  (extendF 2 (hereP 2) (callF fn_pair_lines (consA (shE (op2 ixT (rdVar 0) (cst (.int 1)))) nilA)))
  (ifF (toB (op2 (vop eqD) (rdVar 1) (cst (.str "course"))))
  (seqF (appendF 2 (hereP 2) (frzV (callF fn_item_line (consA (cst (.str "troubles")) (consA (shE (op2 ixT (rdVar 0) (cst (.int 1)))) nilA)))))
  (seqF (appendF 2 (hereP 2) (frzV (callF fn_item_line (consA (cst (.str "people")) (consA (shE (op2 ixT (rdVar 0) (cst (.int 2)))) nilA)))))
  (extendF 2 (hereP 2) (callF fn_pair_lines (consA (shE (op2 ixT (rdVar 0) (cst (.int 3)))) nilA)))))
  (forL (tgName 3)
  lb_write_paper_1 (shE (op2 ixT (rdVar 0) (cst (.int 1))))))))
  (retF (m1F joinT (cst (.str "\n")) (rdVar 2))))))
noncomputable def fn_write_paper : FD := fnF 4 fb_write_paper
theorem ok_write_paper (T : Txt K mg) : FnOk P w K mg base (L2.CX P w) 3 T.a_write_paper T.fd_write_paper ["paper"] (spD 1 K fn_write_paper) := fn_ok T.F_write_paper sc_write_paper fun cdv A outer s H E hr C => (by
  exact (dss_cons (ds_set 1 C.nd (DE.frz (DE.sh' (dr_ix ix_seq opp_ix (fun _ _ => rfl) (dr_var 0) de_int))))
  (dss_cons (ds_set 2 C.nd (de_lst (da_cons (de_var' 1) da_nil)))
  (dss_cons (ds_if (dt_cmp (op_eq.or (op_eqD hr.units)) (OpV.d opv_eq) (dr_var 1) de_str (nomark _))
  (dss_one (ds_extend (dp_var 2) (de_call C (ok_triple_lines T) (hr.mono (by decide)) T.m_triple_lines T.F_triple_lines.kp T.b_triple_lines (da_cons (DE.sh' (dr_ix ix_seq opp_ix (fun _ _ => rfl) (dr_var 0) de_int)) da_nil) (consA_len nilA_len))))
  (dss_one (ds_if (dt_cmp (op_eq.or (op_eqD hr.units)) (OpV.d opv_eq) (dr_var 1) de_str (nomark _))
  (dss_one (ds_extend (dp_var 2) (de_call C (ok_pair_lines T) (hr.mono (by decide)) T.m_pair_lines T.F_pair_lines.kp T.b_pair_lines (da_cons (DE.sh' (dr_ix ix_seq opp_ix (fun _ _ => rfl) (dr_var 0) de_int)) da_nil) (consA_len nilA_len))))
  (dss_one (ds_if (dt_cmp (op_eq.or (op_eqD hr.units)) (OpV.d opv_eq) (dr_var 1) de_str (nomark _))
  (dss_cons (ds_append (dp_var 2) (DE.frz (de_call C (ok_item_line T) (hr.mono (by decide)) T.m_item_line T.F_item_line.kp T.b_item_line (da_cons de_str (da_cons (DE.sh' (dr_ix ix_seq opp_ix (fun _ _ => rfl) (dr_var 0) de_int)) da_nil)) (consA_len (consA_len nilA_len)))))
  (dss_cons (ds_append (dp_var 2) (DE.frz (de_call C (ok_item_line T) (hr.mono (by decide)) T.m_item_line T.F_item_line.kp T.b_item_line (da_cons de_str (da_cons (DE.sh' (dr_ix ix_seq opp_ix (fun _ _ => rfl) (dr_var 0) de_int)) da_nil)) (consA_len (consA_len nilA_len)))))
  (dss_one (ds_extend (dp_var 2) (de_call C (ok_pair_lines T) (hr.mono (by decide)) T.m_pair_lines T.F_pair_lines.kp T.b_pair_lines (da_cons (DE.sh' (dr_ix ix_seq opp_ix (fun _ _ => rfl) (dr_var 0) de_int)) da_nil) (consA_len nilA_len))))))
  (dss_one (ds_forL C (DE.sh' (dr_ix ix_seq opp_ix (fun _ _ => rfl) (dr_var 0) de_int)) (dg_name 3 C.nd)
  (dss_one (ds_extend (dp_var 2) (de_call C (ok_entry_lines T) (hr.mono (by decide)) T.m_entry_lines T.F_entry_lines.kp T.b_entry_lines (da_cons (de_var' 3) da_nil) (consA_len nilA_len)))))))))))
  (dss_one (ds_ret (de_join de_str (dr_var 2))))))))
noncomputable def lb_read_entries_1 : FS := (seqF (appendF 6 (hereP 6) (frzV (callF fn_read_triple (consA (vr 0) (consA (vr 2) nilA)))))
  (augF 2 (vop addV) (cst (.int 1))))
noncomputable def lc_read_entries_1 : FB := (andB (toB (op2 (vop ltD) (rdVar 2) (opA (vcall lenD) (consA (rdVar 0) nilA)))) (toB (op2 (vop neD) (op2 ixT (m1F splitT (op2 ixT (rdVar 0) (rdVar 2)) (cst (.str " "))) (cst (.int 0))) (cst (.str "troubles")))))
noncomputable def lb_read_entries_2 : FS := (seqF (setF 3 (frzV (callF fn_read_names (consA (vr 0) (consA (vr 2) nilA)))))
  (seqF (setF 4 (frzV (callF fn_read_numbers (consA (vr 0) (consA (op2 addT (rdVar 2) (cst (.int 1))) (consA (cst (.str "people")) nilA))))))
  (seqF (setF 5 (frzV (callF fn_read_numbers (consA (vr 0) (consA (op2 addT (rdVar 2) (cst (.int 2))) (consA (cst (.str "carried")) nilA))))))
  (seqF (augF 2 (vop addV) (cst (.int 3)))
  (seqF (setF 6 (opA lstT nilA))
  (seqF (whileF lc_read_entries_1
  lb_read_entries_1)
  (appendM 1 (hereP 1) (tupM (consM (ofE (frzV (vr 3))) (consM (ofE (frzV (vr 4))) (consM (ofE (frzV (vr 5))) (consM (mvE 6) nilM))))))))))))
noncomputable def lc_read_entries_2 : FB := (toB (op2 (vop ltD) (rdVar 2) (opA (vcall lenD) (consA (rdVar 0) nilA))))
theorem sc_read_entries : FnScope ["lines", "entries", "at", "names", "row", "carried", "movement"] ["lines"] (defScope s_read_entries) := ⟨rfl, rfl, rfl, by decide +kernel, rfl, by decide +kernel, by decide +kernel⟩
noncomputable def fb_read_entries : FS := (seqF (setF 1 (opA lstT nilA))
  (seqF (setF 2 (cst (.int 1)))
  (seqF (whileF lc_read_entries_2
  lb_read_entries_2)
  (retMv 1))))
noncomputable def fn_read_entries : FD := fnF 7 fb_read_entries
theorem ok_read_entries (T : Txt K mg) : FnOk P w K mg base (L2.CX P w) 3 T.a_read_entries T.fd_read_entries ["lines"] (spD 1 K fn_read_entries) := fn_ok T.F_read_entries sc_read_entries fun cdv A outer s H E hr C => (by
  exact (dss_cons (ds_set 1 C.nd (de_lst da_nil))
  (dss_cons (ds_set 2 C.nd de_int)
  (dss_cons (ds_while C (dt_cmp op_lt (OpV.d opv_lt) (dr_var 2) (de_callB (fr := false) call_len (CallV.d callv_len) (by rfl) T.n_len PySem.boot_len (da_cons (dr_var 0) da_nil)) (nomark _))
  (dss_cons (ds_set 3 C.nd (DE.frz (de_call C (ok_read_names T) (hr.mono (by decide)) T.m_read_names T.F_read_names.kp T.b_read_names (da_cons (de_var' 0) (da_cons (de_var' 2) da_nil)) (consA_len (consA_len nilA_len)))))
  (dss_cons (ds_set 4 C.nd (DE.frz (de_call C (ok_read_numbers T) (hr.mono (by decide)) T.m_read_numbers T.F_read_numbers.kp T.b_read_numbers (da_cons (de_var' 0) (da_cons (de_op opr_add opd_add (dr_var 2) de_int) (da_cons de_str da_nil))) (consA_len (consA_len (consA_len nilA_len))))))
  (dss_cons (ds_set 5 C.nd (DE.frz (de_call C (ok_read_numbers T) (hr.mono (by decide)) T.m_read_numbers T.F_read_numbers.kp T.b_read_numbers (da_cons (de_var' 0) (da_cons (de_op opr_add opd_add (dr_var 2) de_int) (da_cons de_str da_nil))) (consA_len (consA_len (consA_len nilA_len))))))
  (dss_cons (ds_aug 2 C.nd aug_add de_int)
  (dss_cons (ds_set 6 C.nd (de_lst da_nil))
  (dss_cons (ds_while C (DW.pt (dw_and (dt_cmp op_lt (OpV.d opv_lt) (dr_var 2) (de_callB (fr := false) call_len (CallV.d callv_len) (by rfl) T.n_len PySem.boot_len (da_cons (dr_var 0) da_nil)) (nomark _)) (dw_and1 (dt_cmp (op_ne.or (op_neD hr.units)) (OpV.d opv_ne) (dr_ix ix_seq opp_ix (fun _ _ => rfl) (de_split (dr_ix ix_seq opp_ix (fun _ _ => rfl) (dr_var 0) (dr_var 2)) de_str) de_int) de_str (nomark _)))))
  (dss_cons (ds_append (dp_var 6) (DE.frz (de_call C (ok_read_triple T) (hr.mono (by decide)) T.m_read_triple T.F_read_triple.kp T.b_read_triple (da_cons (de_var' 0) (da_cons (de_var' 2) da_nil)) (consA_len (consA_len nilA_len)))))
  (dss_one (ds_aug 2 C.nd aug_add de_int))))
  (dss_one (ds_appendM (dp_var 1) (dm_tup (dms_cons (dm_of (DE.frz (de_var' 3))) (dms_cons (dm_of (DE.frz (de_var' 4))) (dms_cons (dm_of (DE.frz (de_var' 5))) (dms_cons (dm_var 6) dms_nil))))))))))))))
  (dss_one (ds_retMv 1))))))
noncomputable def le__law_amounts_1 : FE := (frzV (callF fn__law_amount (consA (vr 0) (consA (op2 addT (rdVar 1) (op2 mulT (cst (.int 2)) (rdVar 3))) nilA))))
theorem sc__law_amounts : FnScope ["script", "k", "count", "at"] ["script", "k", "count"] (defScope s__law_amounts) := ⟨rfl, rfl, rfl, by decide +kernel, rfl, by decide +kernel, by decide +kernel⟩
noncomputable def fb__law_amounts : FS := (retF (opA tupleT (consA (compR [3] (tgName 3) yesB le__law_amounts_1 (cst (.int 0)) (rdVar 2)) nilA)))
noncomputable def fn__law_amounts : FD := fnF 4 fb__law_amounts
theorem ok__law_amounts (T : Txt K mg) : FnOk P w K mg base (L2.CX P w) 3 T.a__law_amounts T.fd__law_amounts ["script", "k", "count"] (spD 3 K fn__law_amounts) := fn_ok T.F__law_amounts sc__law_amounts fun cdv A outer s H E hr C => (by
  exact (dss_one (ds_ret (de_callTy (fr := false) call_tuple_of calld_tuple (by rfl) T.n_tuple boot_tuple (da_cons (dv_lcR1 (own := [("at", 3)]) C (by rfl) T.n_range (dr_var 2) (blkOk_by (N := ["script", "k", "count", "at"]) (sc := defScope s__law_amounts) (own := [("at", 3)]) (by decide +kernel)) (fun _ _ _ _ _ => (dgc_name 3 (ctx_blk C).nd)) (fun _ _ _ _ _ => dc_nil) (fun _ _ _ _ _ => (DE.frz (de_call (ctx_blk C) (ok__law_amount T) (hr.mono (by decide)) T.m__law_amount T.F__law_amount.kp T.b__law_amount (da_cons (de_var' 0) (da_cons (de_op opr_add opd_add (dr_var 1) (de_op opr_mul opd_mul de_int (dr_var 3))) da_nil)) (consA_len (consA_len nilA_len)))))).de.weak da_nil)))))
noncomputable def lb__law_triples_1 : FS := (seqF (setF 6 (frzV (op2 addT (rdVar 1) (op2 mulT (cst (.int 5)) (rdVar 5)))))
  (seqF (setF 7 (frzV (shE (op2 ixT (rdVar 3) (callF fn__law_draw (consA (vr 0) (consA (vr 6) (consA (opA (vcall lenD) (consA (rdVar 3) nilA)) nilA))))))))
  (appendF 4 (hereP 4) (frzV (opA tupT (consA (callF fn__law_amount (consA (vr 0) (consA (op2 addT (rdVar 6) (cst (.int 1))) nilA))) (consA (vr 7) (consA (callF fn__law_amount (consA (vr 0) (consA (op2 addT (rdVar 6) (cst (.int 3))) nilA))) nilA))))))))
theorem sc__law_triples : FnScope ["script", "k", "count", "pool", "triples", "at", "spot", "way"] ["script", "k", "count", "pool"] (defScope s__law_triples) := ⟨rfl, rfl, rfl, by decide +kernel, rfl, by decide +kernel, by decide +kernel⟩
noncomputable def fb__law_triples : FS := (seqF (setF 4 (opA lstT nilA))
  (seqF (forR1 (tgName 5)
  lb__law_triples_1 (rdVar 2))
  (retMv 4)))
noncomputable def fn__law_triples : FD := fnF 8 fb__law_triples
theorem ok__law_triples (T : Txt K mg) : FnOk P w K mg base (L2.CX P w) 3 T.a__law_triples T.fd__law_triples ["script", "k", "count", "pool"] (spD 4 K fn__law_triples) := fn_ok T.F__law_triples sc__law_triples fun cdv A outer s H E hr C => (by
  exact (dss_cons (ds_set 4 C.nd (de_lst da_nil))
  (dss_cons (ds_forR1 C (by rfl) T.n_range (dr_var 2) (dg_name 5 C.nd)
  (dss_cons (ds_set 6 C.nd (DE.frz (de_op opr_add opd_add (dr_var 1) (de_op opr_mul opd_mul de_int (dr_var 5)))))
  (dss_cons (ds_set 7 C.nd (DE.frz (DE.sh' (dr_ix ix_seq opp_ix (fun _ _ => rfl) (dr_var 3) (de_call C (ok__law_draw T) (hr.mono (by decide)) T.m__law_draw T.F__law_draw.kp T.b__law_draw (da_cons (de_var' 0) (da_cons (de_var' 6) (da_cons (de_callB (fr := false) call_len (CallV.d callv_len) (by rfl) T.n_len PySem.boot_len (da_cons (dr_var 3) da_nil)) da_nil))) (consA_len (consA_len (consA_len nilA_len))))))))
  (dss_one (ds_append (dp_var 4) (DE.frz (de_tup (da_cons (de_call C (ok__law_amount T) (hr.mono (by decide)) T.m__law_amount T.F__law_amount.kp T.b__law_amount (da_cons (de_var' 0) (da_cons (de_op opr_add opd_add (dr_var 6) de_int) da_nil)) (consA_len (consA_len nilA_len))) (da_cons (de_var' 7) (da_cons (de_call C (ok__law_amount T) (hr.mono (by decide)) T.m__law_amount T.F__law_amount.kp T.b__law_amount (da_cons (de_var' 0) (da_cons (de_op opr_add opd_add (dr_var 6) de_int) da_nil)) (consA_len (consA_len nilA_len))) da_nil))))))))))
  (dss_one (ds_retMv 4)))))
noncomputable def lb__law_pairs_1 : FS := (seqF (setF 6 (frzV (shE (op2 ixT (rdVar 3) (callF fn__law_draw (consA (vr 0) (consA (op2 addT (rdVar 1) (op2 mulT (cst (.int 3)) (rdVar 5))) (consA (opA (vcall lenD) (consA (rdVar 3) nilA)) nilA))))))))
  (appendF 4 (hereP 4) (frzV (opA tupT (consA (vr 6) (consA (callF fn__law_amount (consA (vr 0) (consA (op2 addT (op2 addT (rdVar 1) (op2 mulT (cst (.int 3)) (rdVar 5))) (cst (.int 1))) nilA))) nilA))))))
theorem sc__law_pairs : FnScope ["script", "k", "count", "pool", "pairs", "at", "room"] ["script", "k", "count", "pool"] (defScope s__law_pairs) := ⟨rfl, rfl, rfl, by decide +kernel, rfl, by decide +kernel, by decide +kernel⟩
noncomputable def fb__law_pairs : FS := (seqF (setF 4 (opA lstT nilA))
  (seqF (forR1 (tgName 5)
  lb__law_pairs_1 (rdVar 2))
  (retMv 4)))
noncomputable def fn__law_pairs : FD := fnF 7 fb__law_pairs
theorem ok__law_pairs (T : Txt K mg) : FnOk P w K mg base (L2.CX P w) 3 T.a__law_pairs T.fd__law_pairs ["script", "k", "count", "pool"] (spD 4 K fn__law_pairs) := fn_ok T.F__law_pairs sc__law_pairs fun cdv A outer s H E hr C => (by
  exact (dss_cons (ds_set 4 C.nd (de_lst da_nil))
  (dss_cons (ds_forR1 C (by rfl) T.n_range (dr_var 2) (dg_name 5 C.nd)
  (dss_cons (ds_set 6 C.nd (DE.frz (DE.sh' (dr_ix ix_seq opp_ix (fun _ _ => rfl) (dr_var 3) (de_call C (ok__law_draw T) (hr.mono (by decide)) T.m__law_draw T.F__law_draw.kp T.b__law_draw (da_cons (de_var' 0) (da_cons (de_op opr_add opd_add (dr_var 1) (de_op opr_mul opd_mul de_int (dr_var 5))) (da_cons (de_callB (fr := false) call_len (CallV.d callv_len) (by rfl) T.n_len PySem.boot_len (da_cons (dr_var 3) da_nil)) da_nil))) (consA_len (consA_len (consA_len nilA_len))))))))
  (dss_one (ds_append (dp_var 4) (DE.frz (de_tup (da_cons (de_var' 6) (da_cons (de_call C (ok__law_amount T) (hr.mono (by decide)) T.m__law_amount T.F__law_amount.kp T.b__law_amount (da_cons (de_var' 0) (da_cons (de_op opr_add opd_add (de_op opr_add opd_add (dr_var 1) (de_op opr_mul opd_mul de_int (dr_var 5))) de_int) da_nil)) (consA_len (consA_len nilA_len))) da_nil))))))))
  (dss_one (ds_retMv 4)))))
noncomputable def le_read_paper_1 : FE := (frzV (callF fn_read_triple (consA (vr 1) (consA (vr 4) nilA))))
noncomputable def le_read_paper_2 : FE := (frzV (callF fn_read_pair (consA (vr 1) (consA (vr 4) nilA))))
noncomputable def le_read_paper_3 : FE := (frzV (callF fn_read_pair (consA (vr 1) (consA (vr 4) nilA))))
theorem sc_read_paper : FnScope ["text", "lines", "names", "row", "at"] ["text"] (defScope s_read_paper) := ⟨rfl, rfl, rfl, by decide +kernel, rfl, by decide +kernel, by decide +kernel⟩
noncomputable def fb_read_paper : FS := (seqF (setF 1 (frzV (m1F splitT (rdVar 0) (cst (.str "\n")))))
  (seqF (ifF (toB (op2 (vop eqD) (op2 ixT (rdVar 1) (cst (.int 0))) (cst (.str "movement"))))
  (retF (opA tupT (consA (cst (.str "movement")) (consA (compR [4] (tgName 4) yesB le_read_paper_1 (cst (.int 1)) (opA (vcall lenD) (consA (rdVar 1) nilA))) nilA))))
  nextF)
  (seqF (ifF (toB (op2 (vop eqD) (op2 ixT (rdVar 1) (cst (.int 0))) (cst (.str "cut"))))
  (retF (opA tupT (consA (cst (.str "cut")) (consA (compR [4] (tgName 4) yesB le_read_paper_2 (cst (.int 1)) (opA (vcall lenD) (consA (rdVar 1) nilA))) nilA))))
  nextF)
  (seqF (ifF (toB (op2 (vop eqD) (op2 ixT (rdVar 1) (cst (.int 0))) (cst (.str "course"))))
  (seqF (setF 2 (frzV (callF fn_read_names (consA (vr 1) (consA (cst (.int 1)) nilA)))))
  (seqF (setF 3 (frzV (callF fn_read_numbers (consA (vr 1) (consA (cst (.int 2)) (consA (cst (.str "people")) nilA))))))
  (retF (opA tupT (consA (cst (.str "course")) (consA (vr 2) (consA (vr 3) (consA (compR [4] (tgName 4) yesB le_read_paper_3 (cst (.int 3)) (opA (vcall lenD) (consA (rdVar 1) nilA))) nilA))))))))
  nextF)
  (seqF (ifF (toB (op2 (vop eqD) (op2 ixT (rdVar 1) (cst (.int 0))) (cst (.str "cover"))))
  (retF (opA tupT (consA (cst (.str "cover")) (consA (callF fn_read_entries (consA (vr 1) nilA)) nilA))))
  nextF)
  neverF)))))
noncomputable def fn_read_paper : FD := fnF 5 fb_read_paper
theorem ok_read_paper (T : Txt K mg) : FnOk P w K mg base (L2.CX P w) 4 T.a_read_paper T.fd_read_paper ["text"] (spD 1 K fn_read_paper) := fn_ok T.F_read_paper sc_read_paper fun cdv A outer s H E hr C => (by
  exact (dss_cons (ds_set 1 C.nd (DE.frz (de_split (dr_var 0) de_str)))
  (dss_cons (ds_if (dt_cmp (op_eq.or (op_eqD hr.units)) (OpV.d opv_eq) (dr_ix ix_seq opp_ix (fun _ _ => rfl) (dr_var 1) de_int) de_str (nomark _))
  (dss_one (ds_ret (de_tup (da_cons de_str (da_cons (dv_lcR2 (own := [("at", 4)]) C (by rfl) T.n_range de_int (de_callB (fr := false) call_len (CallV.d callv_len) (by rfl) T.n_len PySem.boot_len (da_cons (dr_var 1) da_nil)) (blkOk_by (N := ["text", "lines", "names", "row", "at"]) (sc := defScope s_read_paper) (own := [("at", 4)]) (by decide +kernel)) (fun _ _ _ _ _ => (dgc_name 4 (ctx_blk C).nd)) (fun _ _ _ _ _ => dc_nil) (fun _ _ _ _ _ => (DE.frz (de_call (ctx_blk C) (ok_read_triple T) (hr.mono (by decide)) T.m_read_triple T.F_read_triple.kp T.b_read_triple (da_cons (de_var' 1) (da_cons (de_var' 4) da_nil)) (consA_len (consA_len nilA_len)))))).de da_nil)))))
  dss_nil)
  (dss_cons (ds_if (dt_cmp (op_eq.or (op_eqD hr.units)) (OpV.d opv_eq) (dr_ix ix_seq opp_ix (fun _ _ => rfl) (dr_var 1) de_int) de_str (nomark _))
  (dss_one (ds_ret (de_tup (da_cons de_str (da_cons (dv_lcR2 (own := [("at", 4)]) C (by rfl) T.n_range de_int (de_callB (fr := false) call_len (CallV.d callv_len) (by rfl) T.n_len PySem.boot_len (da_cons (dr_var 1) da_nil)) (blkOk_by (N := ["text", "lines", "names", "row", "at"]) (sc := defScope s_read_paper) (own := [("at", 4)]) (by decide +kernel)) (fun _ _ _ _ _ => (dgc_name 4 (ctx_blk C).nd)) (fun _ _ _ _ _ => dc_nil) (fun _ _ _ _ _ => (DE.frz (de_call (ctx_blk C) (ok_read_pair T) (hr.mono (by decide)) T.m_read_pair T.F_read_pair.kp T.b_read_pair (da_cons (de_var' 1) (da_cons (de_var' 4) da_nil)) (consA_len (consA_len nilA_len)))))).de da_nil)))))
  dss_nil)
  (dss_cons (ds_if (dt_cmp (op_eq.or (op_eqD hr.units)) (OpV.d opv_eq) (dr_ix ix_seq opp_ix (fun _ _ => rfl) (dr_var 1) de_int) de_str (nomark _))
  (dss_cons (ds_set 2 C.nd (DE.frz (de_call C (ok_read_names T) (hr.mono (by decide)) T.m_read_names T.F_read_names.kp T.b_read_names (da_cons (de_var' 1) (da_cons de_int da_nil)) (consA_len (consA_len nilA_len)))))
  (dss_cons (ds_set 3 C.nd (DE.frz (de_call C (ok_read_numbers T) (hr.mono (by decide)) T.m_read_numbers T.F_read_numbers.kp T.b_read_numbers (da_cons (de_var' 1) (da_cons de_int (da_cons de_str da_nil))) (consA_len (consA_len (consA_len nilA_len))))))
  (dss_one (ds_ret (de_tup (da_cons de_str (da_cons (de_var' 2) (da_cons (de_var' 3) (da_cons (dv_lcR2 (own := [("at", 4)]) C (by rfl) T.n_range de_int (de_callB (fr := false) call_len (CallV.d callv_len) (by rfl) T.n_len PySem.boot_len (da_cons (dr_var 1) da_nil)) (blkOk_by (N := ["text", "lines", "names", "row", "at"]) (sc := defScope s_read_paper) (own := [("at", 4)]) (by decide +kernel)) (fun _ _ _ _ _ => (dgc_name 4 (ctx_blk C).nd)) (fun _ _ _ _ _ => dc_nil) (fun _ _ _ _ _ => (DE.frz (de_call (ctx_blk C) (ok_read_pair T) (hr.mono (by decide)) T.m_read_pair T.F_read_pair.kp T.b_read_pair (da_cons (de_var' 1) (da_cons (de_var' 4) da_nil)) (consA_len (consA_len nilA_len)))))).de da_nil)))))))))
  dss_nil)
  (dss_cons (ds_if (dt_cmp (op_eq.or (op_eqD hr.units)) (OpV.d opv_eq) (dr_ix ix_seq opp_ix (fun _ _ => rfl) (dr_var 1) de_int) de_str (nomark _))
  (dss_one (ds_ret (de_tup (da_cons de_str (da_cons (de_call C (ok_read_entries T) (hr.mono (by decide)) T.m_read_entries T.F_read_entries.kp T.b_read_entries (da_cons (de_var' 1) da_nil) (consA_len nilA_len)) da_nil)))))
  dss_nil)
  (dss_one ds_never)))))))
theorem sc__law_entry : FnScope ["script", "k", "pool", "times", "names", "row", "carried"] ["script", "k", "pool", "times"] (defScope s__law_entry) := ⟨rfl, rfl, rfl, by decide +kernel, rfl, by decide +kernel, by decide +kernel⟩
noncomputable def fb__law_entry : FS := (seqF (setF 4 (frzV (callF fn__law_names (consA (vr 0) (consA (op2 addT (rdVar 1) (cst (.int 4))) (consA (callF fn__law_draw (consA (vr 0) (consA (vr 1) (consA (cst (.int 6)) nilA)))) (consA (vr 2) nilA)))))))
  (seqF (setF 5 (frzV (callF fn__law_amounts (consA (vr 0) (consA (op2 addT (rdVar 1) (cst (.int 12))) (consA (callF fn__law_draw (consA (vr 0) (consA (op2 addT (rdVar 1) (cst (.int 1))) (consA (cst (.int 9)) nilA)))) nilA))))))
  (seqF (setF 6 (frzV (callF fn__law_amounts (consA (vr 0) (consA (op2 addT (rdVar 1) (cst (.int 28))) (consA (callF fn__law_draw (consA (vr 0) (consA (op2 addT (rdVar 1) (cst (.int 2))) (consA (cst (.int 9)) nilA)))) nilA))))))
  (retF (opA tupT (consA (vr 4) (consA (op2 mulT (rdVar 5) (rdVar 3)) (consA (op2 mulT (rdVar 6) (rdVar 3)) (consA (callF fn__law_triples (consA (vr 0) (consA (op2 addT (rdVar 1) (cst (.int 44))) (consA (callF fn__law_draw (consA (vr 0) (consA (op2 addT (rdVar 1) (cst (.int 3))) (consA (cst (.int 5)) nilA)))) (consA (vr 2) nilA))))) nilA)))))))))
noncomputable def fn__law_entry : FD := fnF 7 fb__law_entry
theorem ok__law_entry (T : Txt K mg) : FnOk P w K mg base (L2.CX P w) 4 T.a__law_entry T.fd__law_entry ["script", "k", "pool", "times"] (spD 4 K fn__law_entry) := fn_ok T.F__law_entry sc__law_entry fun cdv A outer s H E hr C => (by
  exact (dss_cons (ds_set 4 C.nd (DE.frz (de_call C (ok__law_names T) (hr.mono (by decide)) T.m__law_names T.F__law_names.kp T.b__law_names (da_cons (de_var' 0) (da_cons (de_op opr_add opd_add (dr_var 1) de_int) (da_cons (de_call C (ok__law_draw T) (hr.mono (by decide)) T.m__law_draw T.F__law_draw.kp T.b__law_draw (da_cons (de_var' 0) (da_cons (de_var' 1) (da_cons de_int da_nil))) (consA_len (consA_len (consA_len nilA_len)))) (da_cons (de_var' 2) da_nil)))) (consA_len (consA_len (consA_len (consA_len nilA_len)))))))
  (dss_cons (ds_set 5 C.nd (DE.frz (de_call C (ok__law_amounts T) (hr.mono (by decide)) T.m__law_amounts T.F__law_amounts.kp T.b__law_amounts (da_cons (de_var' 0) (da_cons (de_op opr_add opd_add (dr_var 1) de_int) (da_cons (de_call C (ok__law_draw T) (hr.mono (by decide)) T.m__law_draw T.F__law_draw.kp T.b__law_draw (da_cons (de_var' 0) (da_cons (de_op opr_add opd_add (dr_var 1) de_int) (da_cons de_int da_nil))) (consA_len (consA_len (consA_len nilA_len)))) da_nil))) (consA_len (consA_len (consA_len nilA_len))))))
  (dss_cons (ds_set 6 C.nd (DE.frz (de_call C (ok__law_amounts T) (hr.mono (by decide)) T.m__law_amounts T.F__law_amounts.kp T.b__law_amounts (da_cons (de_var' 0) (da_cons (de_op opr_add opd_add (dr_var 1) de_int) (da_cons (de_call C (ok__law_draw T) (hr.mono (by decide)) T.m__law_draw T.F__law_draw.kp T.b__law_draw (da_cons (de_var' 0) (da_cons (de_op opr_add opd_add (dr_var 1) de_int) (da_cons de_int da_nil))) (consA_len (consA_len (consA_len nilA_len)))) da_nil))) (consA_len (consA_len (consA_len nilA_len))))))
  (dss_one (ds_ret (de_tup (da_cons (de_var' 4) (da_cons (de_op opr_mul opd_mul (dr_var 5) (dr_var 3)) (da_cons (de_op opr_mul opd_mul (dr_var 6) (dr_var 3)) (da_cons (de_call C (ok__law_triples T) (hr.mono (by decide)) T.m__law_triples T.F__law_triples.kp T.b__law_triples (da_cons (de_var' 0) (da_cons (de_op opr_add opd_add (dr_var 1) de_int) (da_cons (de_call C (ok__law_draw T) (hr.mono (by decide)) T.m__law_draw T.F__law_draw.kp T.b__law_draw (da_cons (de_var' 0) (da_cons (de_op opr_add opd_add (dr_var 1) de_int) (da_cons de_int da_nil))) (consA_len (consA_len (consA_len nilA_len)))) (da_cons (de_var' 2) da_nil)))) (consA_len (consA_len (consA_len (consA_len nilA_len))))) da_nil)))))))))))
noncomputable def le__law_papers_1 : FE := (frzV (callF fn__law_word (consA (vr 0) (consA (op2 mulT (cst (.int 13)) (rdVar 11)) nilA))))
noncomputable def le__law_papers_2 : FE := (frzV (callF fn__law_entry (consA (vr 0) (consA (op2 addT (cst (.int 320)) (op2 mulT (cst (.int 100)) (rdVar 11))) (consA (vr 1) (consA (vr 2) nilA))))))
theorem sc__law_papers : FnScope ["script", "pool", "times", "movement", "cut", "names", "row", "inner", "entries", "papers", "first", "at"] ["script"] (defScope s__law_papers) := ⟨rfl, rfl, rfl, by decide +kernel, rfl, by decide +kernel, by decide +kernel⟩
noncomputable def fb__law_papers : FS := (seqF (setF 1 (frzV (opA lstT (consA (cst (.str "troubles")) (consA (cst (.str "people")) (consA (cst (.str "carried")) (consA (cst (.str "cut")) (consA (cst (.str "course")) (consA (cst (.str "cover")) (consA (cst (.str "movement")) (consA (cst (.str "t")) (consA (cst (.str "people1")) (consA (cst (.str "troublesx")) nilA)))))))))))))
  (seqF (setF 1 (frzV (op2 addT (op2 addT (rdVar 1) (opA lstT (consA (cst (.str "zzzzzzzzzzzz")) (consA (cst (.str "a0")) nilA)))) (compR [11] (tgName 11) yesB le__law_papers_1 (cst (.int 0)) (cst (.int 8))))))
  (seqF (setF 2 (frzV (op2 addT (cst (.int 1)) (op2 mulT (cst (.int 4)) (frzV (opA (vcall intD1) (consA (op2 (vop eqD) (callF fn__law_draw (consA (vr 0) (consA (cst (.int 110)) (consA (cst (.int 8)) nilA)))) (cst (.int 0))) nilA)))))))
  (seqF (setF 3 (frzV (op2 mulT (frzV (callF fn__law_triples (consA (vr 0) (consA (cst (.int 150)) (consA (callF fn__law_draw (consA (vr 0) (consA (cst (.int 111)) (consA (cst (.int 13)) nilA)))) (consA (vr 1) nilA)))))) (rdVar 2))))
  (seqF (setF 4 (frzV (op2 mulT (frzV (callF fn__law_pairs (consA (vr 0) (consA (cst (.int 210)) (consA (callF fn__law_draw (consA (vr 0) (consA (cst (.int 112)) (consA (cst (.int 13)) nilA)))) (consA (vr 1) nilA)))))) (rdVar 2))))
  (seqF (setF 5 (frzV (op2 mulT (frzV (callF fn__law_names (consA (vr 0) (consA (cst (.int 250)) (consA (callF fn__law_draw (consA (vr 0) (consA (cst (.int 113)) (consA (cst (.int 9)) nilA)))) (consA (vr 1) nilA)))))) (rdVar 2))))
  (seqF (setF 6 (frzV (op2 mulT (frzV (callF fn__law_amounts (consA (vr 0) (consA (cst (.int 260)) (consA (callF fn__law_draw (consA (vr 0) (consA (cst (.int 114)) (consA (cst (.int 9)) nilA)))) nilA))))) (rdVar 2))))
  (seqF (setF 7 (frzV (op2 mulT (frzV (callF fn__law_pairs (consA (vr 0) (consA (cst (.int 280)) (consA (callF fn__law_draw (consA (vr 0) (consA (cst (.int 115)) (consA (cst (.int 9)) nilA)))) (consA (vr 1) nilA)))))) (rdVar 2))))
  (seqF (setF 8 (frzV (op2 mulT (compR [11] (tgName 11) yesB le__law_papers_2 (cst (.int 0)) (callF fn__law_draw (consA (vr 0) (consA (cst (.int 116)) (consA (cst (.int 6)) nilA))))) (rdVar 2))))
  (seqF (setF 9 (frzV (opA lstT (consA (opA tupT (consA (cst (.str "movement")) (consA (vr 3) nilA))) (consA (opA tupT (consA (cst (.str "cut")) (consA (vr 4) nilA))) (consA (opA tupT (consA (cst (.str "course")) (consA (vr 5) (consA (vr 6) (consA (vr 7) nilA))))) (consA (opA tupT (consA (cst (.str "cover")) (consA (vr 8) nilA))) nilA)))))))
  (seqF (setF 9 (frzV (op2 addT (rdVar 9) (frzV (opA lstT (consA (opA tupT (consA (cst (.str "movement")) (consA (opA lstT nilA) nilA))) (consA (opA tupT (consA (cst (.str "cut")) (consA (opA lstT nilA) nilA))) (consA (opA tupT (consA (cst (.str "course")) (consA (opA tupT nilA) (consA (opA tupT nilA) (consA (opA lstT nilA) nilA))))) (consA (opA tupT (consA (cst (.str "cover")) (consA (opA lstT nilA) nilA))) nilA)))))))))
  (seqF (setF 10 (frzV (callF fn__law_draw (consA (vr 0) (consA (cst (.int 117)) (consA (cst (.int 8)) nilA))))))
  (retF (op2 addT (slF cutTL (rdVar 9) (partF (rdVar 10)) (fun _ => some (.ok none))) (slF cutTL (rdVar 9) (fun _ => some (.ok none)) (partF (rdVar 10)))))))))))))))))
noncomputable def fn__law_papers : FD := fnF 12 fb__law_papers
theorem ok__law_papers (T : Txt K mg) : FnOk P w K mg base (L2.CX P w) 5 T.a__law_papers T.fd__law_papers ["script"] (spD 1 K fn__law_papers) := fn_ok T.F__law_papers sc__law_papers fun cdv A outer s H E hr C => (by
  exact (dss_cons (ds_set 1 C.nd (DE.frz (de_lst (da_cons de_str (da_cons de_str (da_cons de_str (da_cons de_str (da_cons de_str (da_cons de_str (da_cons de_str (da_cons de_str (da_cons de_str (da_cons de_str da_nil)))))))))))))
  (dss_cons (ds_set 1 C.nd (DE.frz (de_op opr_add opd_add (de_op opr_add opd_add (dr_var 1) (de_lst (da_cons de_str (da_cons de_str da_nil)))) (dv_lcR1 (own := [("at", 11)]) C (by rfl) T.n_range de_int (blkOk_by (N := ["script", "pool", "times", "movement", "cut", "names", "row", "inner", "entries", "papers", "first", "at"]) (sc := defScope s__law_papers) (own := [("at", 11)]) (by decide +kernel)) (fun _ _ _ _ _ => (dgc_name 11 (ctx_blk C).nd)) (fun _ _ _ _ _ => dc_nil) (fun _ _ _ _ _ => (DE.frz (de_call (ctx_blk C) (ok__law_word T) (hr.mono (by decide)) T.m__law_word T.F__law_word.kp T.b__law_word (da_cons (de_var' 0) (da_cons (de_op opr_mul opd_mul de_int (dr_var 11)) da_nil)) (consA_len (consA_len nilA_len)))))).de)))
  (dss_cons (ds_set 2 C.nd (DE.frz (de_op opr_add opd_add de_int (de_op opr_mul opd_mul de_int (DE.frz (de_callTy (fr := false) cr_int (CallV.d callv_int) (by rfl) T.n_int boot_int (da_cons (de_cmp (op_eq.or (op_eqD hr.units)) (OpV.d opv_eq) (de_call C (ok__law_draw T) (hr.mono (by decide)) T.m__law_draw T.F__law_draw.kp T.b__law_draw (da_cons (de_var' 0) (da_cons de_int (da_cons de_int da_nil))) (consA_len (consA_len (consA_len nilA_len)))) de_int (nomark _)).weak da_nil)))))))
  (dss_cons (ds_set 3 C.nd (DE.frz (de_op opr_mul opd_mul (DE.frz (de_call C (ok__law_triples T) (hr.mono (by decide)) T.m__law_triples T.F__law_triples.kp T.b__law_triples (da_cons (de_var' 0) (da_cons de_int (da_cons (de_call C (ok__law_draw T) (hr.mono (by decide)) T.m__law_draw T.F__law_draw.kp T.b__law_draw (da_cons (de_var' 0) (da_cons de_int (da_cons de_int da_nil))) (consA_len (consA_len (consA_len nilA_len)))) (da_cons (de_var' 1) da_nil)))) (consA_len (consA_len (consA_len (consA_len nilA_len)))))) (dr_var 2))))
  (dss_cons (ds_set 4 C.nd (DE.frz (de_op opr_mul opd_mul (DE.frz (de_call C (ok__law_pairs T) (hr.mono (by decide)) T.m__law_pairs T.F__law_pairs.kp T.b__law_pairs (da_cons (de_var' 0) (da_cons de_int (da_cons (de_call C (ok__law_draw T) (hr.mono (by decide)) T.m__law_draw T.F__law_draw.kp T.b__law_draw (da_cons (de_var' 0) (da_cons de_int (da_cons de_int da_nil))) (consA_len (consA_len (consA_len nilA_len)))) (da_cons (de_var' 1) da_nil)))) (consA_len (consA_len (consA_len (consA_len nilA_len)))))) (dr_var 2))))
  (dss_cons (ds_set 5 C.nd (DE.frz (de_op opr_mul opd_mul (DE.frz (de_call C (ok__law_names T) (hr.mono (by decide)) T.m__law_names T.F__law_names.kp T.b__law_names (da_cons (de_var' 0) (da_cons de_int (da_cons (de_call C (ok__law_draw T) (hr.mono (by decide)) T.m__law_draw T.F__law_draw.kp T.b__law_draw (da_cons (de_var' 0) (da_cons de_int (da_cons de_int da_nil))) (consA_len (consA_len (consA_len nilA_len)))) (da_cons (de_var' 1) da_nil)))) (consA_len (consA_len (consA_len (consA_len nilA_len)))))) (dr_var 2))))
  (dss_cons (ds_set 6 C.nd (DE.frz (de_op opr_mul opd_mul (DE.frz (de_call C (ok__law_amounts T) (hr.mono (by decide)) T.m__law_amounts T.F__law_amounts.kp T.b__law_amounts (da_cons (de_var' 0) (da_cons de_int (da_cons (de_call C (ok__law_draw T) (hr.mono (by decide)) T.m__law_draw T.F__law_draw.kp T.b__law_draw (da_cons (de_var' 0) (da_cons de_int (da_cons de_int da_nil))) (consA_len (consA_len (consA_len nilA_len)))) da_nil))) (consA_len (consA_len (consA_len nilA_len))))) (dr_var 2))))
  (dss_cons (ds_set 7 C.nd (DE.frz (de_op opr_mul opd_mul (DE.frz (de_call C (ok__law_pairs T) (hr.mono (by decide)) T.m__law_pairs T.F__law_pairs.kp T.b__law_pairs (da_cons (de_var' 0) (da_cons de_int (da_cons (de_call C (ok__law_draw T) (hr.mono (by decide)) T.m__law_draw T.F__law_draw.kp T.b__law_draw (da_cons (de_var' 0) (da_cons de_int (da_cons de_int da_nil))) (consA_len (consA_len (consA_len nilA_len)))) (da_cons (de_var' 1) da_nil)))) (consA_len (consA_len (consA_len (consA_len nilA_len)))))) (dr_var 2))))
  (dss_cons (ds_set 8 C.nd (DE.frz (de_op opr_mul opd_mul (dv_lcR1 (own := [("at", 11)]) C (by rfl) T.n_range (de_call C (ok__law_draw T) (hr.mono (by decide)) T.m__law_draw T.F__law_draw.kp T.b__law_draw (da_cons (de_var' 0) (da_cons de_int (da_cons de_int da_nil))) (consA_len (consA_len (consA_len nilA_len)))) (blkOk_by (N := ["script", "pool", "times", "movement", "cut", "names", "row", "inner", "entries", "papers", "first", "at"]) (sc := defScope s__law_papers) (own := [("at", 11)]) (by decide +kernel)) (fun _ _ _ _ _ => (dgc_name 11 (ctx_blk C).nd)) (fun _ _ _ _ _ => dc_nil) (fun _ _ _ _ _ => (DE.frz (de_call (ctx_blk C) (ok__law_entry T) (hr.mono (by decide)) T.m__law_entry T.F__law_entry.kp T.b__law_entry (da_cons (de_var' 0) (da_cons (de_op opr_add opd_add de_int (de_op opr_mul opd_mul de_int (dr_var 11))) (da_cons (de_var' 1) (da_cons (de_var' 2) da_nil)))) (consA_len (consA_len (consA_len (consA_len nilA_len)))))))).de (dr_var 2))))
  (dss_cons (ds_set 9 C.nd (DE.frz (de_lst (da_cons (de_tup (da_cons de_str (da_cons (de_var' 3) da_nil))) (da_cons (de_tup (da_cons de_str (da_cons (de_var' 4) da_nil))) (da_cons (de_tup (da_cons de_str (da_cons (de_var' 5) (da_cons (de_var' 6) (da_cons (de_var' 7) da_nil))))) (da_cons (de_tup (da_cons de_str (da_cons (de_var' 8) da_nil))) da_nil)))))))
  (dss_cons (ds_set 9 C.nd (DE.frz (de_op opr_add opd_add (dr_var 9) (DE.frz (de_lst (da_cons (de_tup (da_cons de_str (da_cons (de_lst da_nil) da_nil))) (da_cons (de_tup (da_cons de_str (da_cons (de_lst da_nil) da_nil))) (da_cons (de_tup (da_cons de_str (da_cons (de_tup da_nil) (da_cons (de_tup da_nil) (da_cons (de_lst da_nil) da_nil))))) (da_cons (de_tup (da_cons de_str (da_cons (de_lst da_nil) da_nil))) da_nil)))))))))
  (dss_cons (ds_set 10 C.nd (DE.frz (de_call C (ok__law_draw T) (hr.mono (by decide)) T.m__law_draw T.F__law_draw.kp T.b__law_draw (da_cons (de_var' 0) (da_cons de_int (da_cons de_int da_nil))) (consA_len (consA_len (consA_len nilA_len))))))
  (dss_one (ds_ret (de_op opr_add opd_add (de_slice sl_list sld_list (dr_var 9) (do_some (dr_var 10)) do_none) (de_slice sl_list sld_list (dr_var 9) do_none (do_some (dr_var 10)))))))))))))))))))
theorem sc__law_there_and_back : FnScope ["paper", "handed", "text", "told", "again", "back", "other"] ["paper"] (defScope s__law_there_and_back) := ⟨rfl, rfl, rfl, by decide +kernel, rfl, by decide +kernel, by decide +kernel⟩
noncomputable def fb__law_there_and_back : FS := (seqF (setF 1 (callF (fn__law_copy 8) (consA (vr 0) nilA)))
  (seqF (setF 2 (frzV (callF fn__law_text (consA (vr 0) nilA))))
  (seqF (setF 3 (frzV (borrowE 1 (callF fn_write_paper (consA (vr 1) nilA)))))
  (seqF (ifF (orB (notB (toB (isiF "str" (rdVar 3)))) (orB (toB (op2 (vop neD) (rdVar 3) (rdVar 2))) (notB (toB (borrowE 1 (callF (fn__law_alike 8) (consA (vr 1) (consA (vr 0) nilA))))))))
  (retF (cst (.bl false)))
  nextF)
  (seqF (clobF 1 okSpoil)
  (seqF (setF 4 (frzV (callF fn_write_paper (consA (callF (fn__law_copy 8) (consA (vr 0) nilA)) nilA))))
  (seqF (ifF (orB (notB (toB (isiF "str" (rdVar 4)))) (toB (op2 (vop neD) (rdVar 4) (rdVar 2))))
  (retF (cst (.bl false)))
  nextF)
  (seqF (setF 5 (callF fn_read_paper (consA (vr 2) nilA)))
  (seqF (ifF (notB (toB (borrowE 5 (callF (fn__law_alike 8) (consA (vr 5) (consA (vr 0) nilA))))))
  (retF (cst (.bl false)))
  nextF)
  (seqF (setF 4 (frzV (borrowE 5 (callF fn_write_paper (consA (vr 5) nilA)))))
  (seqF (ifF (orB (notB (toB (isiF "str" (rdVar 4)))) (orB (toB (op2 (vop neD) (rdVar 4) (rdVar 2))) (notB (toB (borrowE 5 (callF (fn__law_alike 8) (consA (vr 5) (consA (vr 0) nilA))))))))
  (retF (cst (.bl false)))
  nextF)
  (seqF (clobF 5 okSpoil)
  (seqF (setF 6 (frzV (callF fn_read_paper (consA (vr 2) nilA))))
  (retF (callF (fn__law_alike 8) (consA (vr 6) (consA (vr 0) nilA)))))))))))))))))
noncomputable def fn__law_there_and_back : FD := fnF 7 fb__law_there_and_back
theorem ok__law_there_and_back (T : Txt K mg) : FnOk P w K mg base (L2.CX P w) 11 T.a__law_there_and_back T.fd__law_there_and_back ["paper"] (spD 1 K fn__law_there_and_back) := fn_ok T.F__law_there_and_back sc__law_there_and_back fun cdv A outer s H E hr C => (by
  exact (dss_cons (ds_set 1 C.nd (de_call C (ok__law_copy T 8) (hr.mono (by decide)) T.m__law_copy T.F__law_copy.kp T.b__law_copy (da_cons (de_var' 0) da_nil) (consA_len nilA_len)))
  (dss_cons (ds_set 2 C.nd (DE.frz (de_call C (ok__law_text T) (hr.mono (by decide)) T.m__law_text T.F__law_text.kp T.b__law_text (da_cons (de_var' 0) da_nil) (consA_len nilA_len))))
  (dss_cons (ds_set 3 C.nd (DE.frz (de_borrow 1 (de_call C (ok_write_paper T) (hr.mono (by decide)) T.m_write_paper T.F_write_paper.kp T.b_write_paper (da_cons (de_var' 1) da_nil) (consA_len nilA_len)))))
  (dss_cons (ds_if (DW.pt (dw_or (dt_not (dt_val (de_isi (n := "str") (by decide) (dr_var 3) (by rfl) T.n_isinstance boot_isinstance (by rfl) T.n_str boot_str))) (dw_or (dt_cmp (op_ne.or (op_neD hr.units)) (OpV.d opv_ne) (dr_var 3) (dr_var 2) (nomark _)) (dw_or1 (dt_not (dt_val (de_borrow 1 (de_call C (ok__law_alike T 8) (hr.mono (by decide)) T.m__law_alike T.F__law_alike.kp T.b__law_alike (da_cons (de_var' 1) (da_cons (de_var' 0) da_nil)) (consA_len (consA_len nilA_len))))))))))
  (dss_one (ds_ret de_bl))
  dss_nil)
  (dss_cons (ds_clob 1 C (ok__law_spoil T) (hr.mono (by decide)) T.m__law_spoil T.F__law_spoil.kp T.b__law_spoil)
  (dss_cons (ds_set 4 C.nd (DE.frz (de_call C (ok_write_paper T) (hr.mono (by decide)) T.m_write_paper T.F_write_paper.kp T.b_write_paper (da_cons (de_call C (ok__law_copy T 8) (hr.mono (by decide)) T.m__law_copy T.F__law_copy.kp T.b__law_copy (da_cons (de_var' 0) da_nil) (consA_len nilA_len)) da_nil) (consA_len nilA_len))))
  (dss_cons (ds_if (DW.pt (dw_or (dt_not (dt_val (de_isi (n := "str") (by decide) (dr_var 4) (by rfl) T.n_isinstance boot_isinstance (by rfl) T.n_str boot_str))) (dw_or1 (dt_cmp (op_ne.or (op_neD hr.units)) (OpV.d opv_ne) (dr_var 4) (dr_var 2) (nomark _)))))
  (dss_one (ds_ret de_bl))
  dss_nil)
  (dss_cons (ds_set 5 C.nd (de_call C (ok_read_paper T) (hr.mono (by decide)) T.m_read_paper T.F_read_paper.kp T.b_read_paper (da_cons (de_var' 2) da_nil) (consA_len nilA_len)))
  (dss_cons (ds_if (dt_not (dt_val (de_borrow 5 (de_call C (ok__law_alike T 8) (hr.mono (by decide)) T.m__law_alike T.F__law_alike.kp T.b__law_alike (da_cons (de_var' 5) (da_cons (de_var' 0) da_nil)) (consA_len (consA_len nilA_len))))))
  (dss_one (ds_ret de_bl))
  dss_nil)
  (dss_cons (ds_set 4 C.nd (DE.frz (de_borrow 5 (de_call C (ok_write_paper T) (hr.mono (by decide)) T.m_write_paper T.F_write_paper.kp T.b_write_paper (da_cons (de_var' 5) da_nil) (consA_len nilA_len)))))
  (dss_cons (ds_if (DW.pt (dw_or (dt_not (dt_val (de_isi (n := "str") (by decide) (dr_var 4) (by rfl) T.n_isinstance boot_isinstance (by rfl) T.n_str boot_str))) (dw_or (dt_cmp (op_ne.or (op_neD hr.units)) (OpV.d opv_ne) (dr_var 4) (dr_var 2) (nomark _)) (dw_or1 (dt_not (dt_val (de_borrow 5 (de_call C (ok__law_alike T 8) (hr.mono (by decide)) T.m__law_alike T.F__law_alike.kp T.b__law_alike (da_cons (de_var' 5) (da_cons (de_var' 0) da_nil)) (consA_len (consA_len nilA_len))))))))))
  (dss_one (ds_ret de_bl))
  dss_nil)
  (dss_cons (ds_clob 5 C (ok__law_spoil T) (hr.mono (by decide)) T.m__law_spoil T.F__law_spoil.kp T.b__law_spoil)
  (dss_cons (ds_set 6 C.nd (DE.frz (de_call C (ok_read_paper T) (hr.mono (by decide)) T.m_read_paper T.F_read_paper.kp T.b_read_paper (da_cons (de_var' 2) da_nil) (consA_len nilA_len))))
  (dss_one (ds_ret (de_call C (ok__law_alike T 8) (hr.mono (by decide)) T.m__law_alike T.F__law_alike.kp T.b__law_alike (da_cons (de_var' 6) (da_cons (de_var' 0) da_nil)) (consA_len (consA_len nilA_len)))))))))))))))))))
noncomputable def lb_law_1 : FS := (ifF (notB (toB (callF fn__law_there_and_back (consA (vr 2) nilA))))
  (retF (cst (.bl false)))
  nextF)
noncomputable def lb_law_2 : FS := (ifF (notB (toB (callF (fn__law_alike 8) (consA (callF fn_read_paper (consA (callF fn__law_text (consA (vr 2) nilA)) nilA)) (consA (vr 2) nilA)))))
  (retF (cst (.bl false)))
  nextF)
theorem sc_law : FnScope ["script", "papers", "paper"] ["script"] (defScope s_law) := ⟨rfl, rfl, rfl, by decide +kernel, rfl, by decide +kernel, by decide +kernel⟩
noncomputable def fb_law : FS := (seqF (setF 1 (frzV (callF fn__law_papers (consA (vr 0) nilA))))
  (seqF (forL (tgName 2)
  lb_law_1 (vr 1))
  (seqF (forL (tgName 2)
  lb_law_2 (vr 1))
  (retF (cst (.bl true))))))
noncomputable def fn_law : FD := fnF 3 fb_law
theorem ok_law (T : Txt K mg) : FnOk P w K mg base (L2.CX P w) 12 T.a_law T.fd_law ["script"] (spD 1 K fn_law) := fn_ok T.F_law sc_law fun cdv A outer s H E hr C => (by
  exact (dss_cons (ds_set 1 C.nd (DE.frz (de_call C (ok__law_papers T) (hr.mono (by decide)) T.m__law_papers T.F__law_papers.kp T.b__law_papers (da_cons (de_var' 0) da_nil) (consA_len nilA_len))))
  (dss_cons (ds_forL C (de_var' 1) (dg_name 2 C.nd)
  (dss_one (ds_if (dt_not (dt_val (de_call C (ok__law_there_and_back T) (hr.mono (by decide)) T.m__law_there_and_back T.F__law_there_and_back.kp T.b__law_there_and_back (da_cons (de_var' 2) da_nil) (consA_len nilA_len))))
  (dss_one (ds_ret de_bl))
  dss_nil)))
  (dss_cons (ds_forL C (de_var' 1) (dg_name 2 C.nd)
  (dss_one (ds_if (dt_not (dt_val (de_call C (ok__law_alike T 8) (hr.mono (by decide)) T.m__law_alike T.F__law_alike.kp T.b__law_alike (da_cons (de_call C (ok_read_paper T) (hr.mono (by decide)) T.m_read_paper T.F_read_paper.kp T.b_read_paper (da_cons (de_call C (ok__law_text T) (hr.mono (by decide)) T.m__law_text T.F__law_text.kp T.b__law_text (da_cons (de_var' 2) da_nil) (consA_len nilA_len)) da_nil) (consA_len nilA_len)) (da_cons (de_var' 2) da_nil)) (consA_len (consA_len nilA_len)))))
  (dss_one (ds_ret de_bl))
  dss_nil)))
  (dss_one (ds_ret de_bl))))))
end
end K48
end DV

namespace DV
namespace K48
open PySem PySem.Spec PyProof.Rows L2

/-- a script -/
def scr (ns : List Int) : D := .frl (ns.map D.int)
theorem ix_scr (ns : List Int) {i : Int} (h0 : 0 ≤ i) (h1 : i < ns.length) : ixT (.sh (scr ns)) (.sh (.int i)) = some (.sh (.int (ns.getD i.toNat 0))) := by
  obtain ⟨m, rfl⟩ := Int.eq_ofNat_of_zero_le h0
  have h2 : m < ns.length := by omega
  have e : ixN ns.length (m : Int) = some m := by
    unfold ixN
    rw [if_pos (by omega), if_pos (by omega)]
    rfl
  simp [ixT, itemsT, scr, atI, e, h2]
theorem draw_loop {a b c d e f g : Option T} : ∀ (ts : List T) (r : Int) (h : Option T), ∃ r' h', forF (tgName 7) lb__law_draw_1 ts [a, b, c, d, e, f, some (.sh (.int r)), h] = some (.nx [a, b, c, d, e, f, some (.sh (.int r')), h'])
  | [], r, h => ⟨r, h, rfl⟩
  | t :: ts, r, h => by
    obtain ⟨r', h', e⟩ := draw_loop (a := a) (b := b) (c := c) (d := d) (e := e) (f := f) (g := g) ts (r / 10000) (some t)
    refine ⟨r', h', ?_⟩
    simpa [forF, lb__law_draw_1] using e
theorem draw_ok (ns : List Int) {k size : Int} (hk : 0 ≤ k ∧ k < 2 ^ 40) (hs : 0 < size) :
    ∃ r, fn__law_draw [scr ns, .int k, .int size] = some (.ok (.sh (.int r))) ∧ 0 ≤ r ∧ r < size := by
  have hm : ∀ a : Int, 0 ≤ a % size ∧ a % size < size := fun a => ⟨Int.emod_nonneg _ (by omega), Int.emod_lt_of_pos _ hs⟩
  have hl : scr ns = D.frl (ns.map D.int) := rfl
  have e2 : ∀ x : Int, -(2 ^ 64) < x % 2147483647 ∧ x % 2147483647 < 2 ^ 64 := fun x => by omega
  have e3 : ∀ x : Int, -(2 ^ 64) < x % 2147483629 ∧ x % 2147483629 < 2 ^ 64 := fun x => by omega
  have tail : ∀ x : Int, mulT (.sh (.int (x % 2147483647))) (.sh (.int (x % 2147483647 + 48271))) = some (.sh (.int ((x % 2147483647) * (x % 2147483647 + 48271)))) := fun x => mulT_int _ _ (.inl (e2 x))
  have tail2 : ∀ x : Int, mulT (.sh (.int (x % 2147483629))) (.sh (.int (x % 2147483629 + 69621))) = some (.sh (.int ((x % 2147483629) * (x % 2147483629 + 69621)))) := fun x => mulT_int _ _ (.inl (e3 x))
  have t3 : mulT (.sh (.int 7919)) (.sh (.int k)) = some (.sh (.int (7919 * k))) := mulT_int _ _ (.inl (by omega))
  have t4 : mulT (.sh (.int 31)) (.sh (.int k)) = some (.sh (.int (31 * k))) := mulT_int _ _ (.inl (by omega))
  by_cases hn : ns = []
  · subst hn
    simp [fn__law_draw, fb__law_draw, fnF_ap, scr, tail, tail2, t3, t4, hs, hm]
  · have hp : 0 < ns.length := List.length_pos_iff.mpr hn
    generalize hc : (if (63 : Int) < ns.length then (63 : Int) else ns.length) = c
    have hc0 : 0 < c := by split at hc <;> omega
    have hc1 : c ≤ ns.length := by split at hc <;> omega
    have hc2 : c < 1073741824 := by split at hc <;> omega
    have ix := ix_scr ns (i := k % c) (Int.emod_nonneg _ (by omega)) (Int.lt_of_lt_of_le (Int.emod_lt_of_pos _ hc0) hc1)
    rw [hl] at ix
    generalize ns.getD (k % c).toNat 0 = v at ix
    simp [fn__law_draw, fb__law_draw, fnF_ap, scr, hc, hc0, ix]
    generalize hw : (if v < 0 then -v else v) = w
    have hq : 0 ≤ k / c ∧ k / c < 2 ^ 40 := ⟨Int.ediv_nonneg hk.1 (by omega), by
      have := Int.ediv_le_self c hk.1
      omega⟩
    have hs62 : small62 (k / c) = true := by
      simp only [small62, decide_eq_true_eq]
      omega
    by_cases hb : 1000000000000000000 ≤ w
    · obtain ⟨r', h', e⟩ := draw_loop (a := some (.sh (.frl (ns.map D.int)))) (b := some (.sh (.int k))) (c := some (.sh (.int size))) (d := some (.sh (.int c))) (e := some (.sh (.int w))) (f := none) (g := none) (rangeL 0 (k / c)) w none
      simp [hb, hc0, hc2, hs62, e]
      by_cases hr : 0 < r'
      · simp [hr, hs, hm]
      · simp [hr, tail, tail2, t3, t4, hs, hm]
    · simp [hb, tail, tail2, t3, t4, hs, hm]
end K48
end DV

namespace DV
open PySem PySem.Spec PyProof.Rows L2
theorem rangeL_mem {lo hi : Int} {t : T} (h : t ∈ rangeL lo hi) : ∃ i : Int, t = .sh (.int i) ∧ lo ≤ i ∧ i < hi := by
  obtain ⟨m, hm, rfl⟩ := List.mem_map.mp h
  rw [List.mem_range] at hm
  exact ⟨lo + m, rfl, by omega, by omega⟩
theorem rangeD_mem {lo hi : Int} {t : D} (h : t ∈ rangeD lo hi) : ∃ i : Int, t = .int i ∧ lo ≤ i ∧ i < hi := by
  obtain ⟨m, hm, rfl⟩ := List.mem_map.mp h
  rw [List.mem_range] at hm
  exact ⟨lo + m, rfl, by omega, by omega⟩
theorem rangeL_len (lo hi : Int) : (rangeL lo hi).length = (hi - lo).toNat := by simp [rangeL]
theorem rangeD_len (lo hi : Int) : (rangeD lo hi).length = (hi - lo).toNat := by simp [rangeD]
theorem small_of {k : Int} (h : 0 ≤ k ∧ k < 2 ^ 60) : small62 k = true := by
  simp only [small62, decide_eq_true_eq]
  omega
theorem compL_list {α : Type} (mk : α → T) (P : D → α → Prop) {ρ : Env} {tg : T → FS} {f : FE} : ∀ {ds : List D}, (∀ d ∈ ds, ∃ ρ1 a, tg (.sh d) ρ = some (.nx ρ1) ∧ f ρ1 = some (.ok (mk a)) ∧ P d a) →
    ∃ as : List α, compL tg yesB f ρ ds = some (as.map mk) ∧ as.length = ds.length ∧ ∀ a ∈ as, ∃ d, P d a
  | [], _ => ⟨[], rfl, rfl, by simp⟩
  | d :: ds, h => by
    obtain ⟨ρ1, a, e1, e2, r⟩ := h d (by simp)
    obtain ⟨as, e3, el, k⟩ := compL_list mk P (ds := ds) fun x hx => h x (List.mem_cons_of_mem _ hx)
    refine ⟨a :: as, by simp only [compL, e1, yesB, e2, e3]; rfl, by simp [el], fun b hb => ?_⟩
    rcases List.mem_cons.mp hb with rfl | hb
    · exact ⟨d, r⟩
    · exact k b hb
theorem shl_mk {α : Type} (mk : α → D) (l : List α) : T.shl (l.map fun a => T.sh (mk a)) = some (l.map mk) := by
  have := shl_map (l.map mk)
  rwa [List.map_map] at this
theorem tupleT_mk {α : Type} (mk : α → D) (l : List α) : tupleT [.lst (l.map fun a => T.sh (mk a))] = some (.sh (.tup (l.map mk))) := by
  simp [tupleT, shTup, viewS, shl_mk]
/-- the sign at i -/
def sg (x : Str) (i : Int) : Str := sgn (x.cps.toList.getD i.toNat 0)
theorem ixT_str {x : Str} {i : Int} (hx : x.length ≤ sizeLine) (h0 : 0 ≤ i) (h1 : i < x.length) : ixT (.sh (.str x)) (.sh (.int i)) = some (.sh (.str (sg x i))) := by
  obtain ⟨m, rfl⟩ := Int.eq_ofNat_of_zero_le h0
  have h2 : m < x.cps.toList.length := by rw [← len_cps]; omega
  have e : ixN x.cps.toList.length (m : Int) = some m := by
    unfold ixN
    rw [if_pos (by omega), if_pos (by omega)]
    rfl
  simp only [ixT, intT_int, if_pos hx, atI, e, Option.bind_some, List.getElem?_eq_getElem h2, Option.map_some, Int.toNat_natCast, sg, List.getD_eq_getElem?_getD, Option.getD_some]
  rfl
/-- list or tuple items -/
theorem ix_items {t : T} {ts : List T} {i : Int} (hs : ∀ z, t ≠ .sh (.str z)) (ht : itemsT t = some ts) (h0 : 0 ≤ i) (h1 : i < ts.length) : ixT t (.sh (.int i)) = ts[i.toNat]? := by
  obtain ⟨m, rfl⟩ := Int.eq_ofNat_of_zero_le h0
  have h2 : m < ts.length := by omega
  have e : ixN ts.length (m : Int) = some m := by
    unfold ixN
    rw [if_pos (by omega), if_pos (by omega)]
    rfl
  have : ixT t (.sh (.int (m : Int))) = (itemsT t).bind fun ts => atI ts (m : Int) := by
    unfold ixT
    simp only [intT_int]
  rw [this]
  simp [ht, atI, e]
theorem ix_lst {l : List D} {i : Int} (h0 : 0 ≤ i) (h1 : i < l.length) : ixT (.sh (.lst l)) (.sh (.int i)) = some (.sh (l.getD i.toNat .non)) := by
  obtain ⟨m, rfl⟩ := Int.eq_ofNat_of_zero_le h0
  have h2 : m < l.length := by omega
  rw [ix_items (ts := l.map T.sh) (by simp) rfl h0 (by simpa using h1)]
  simp [List.getElem?_eq_getElem h2]
namespace K48
open PySem PySem.Spec PyProof.Rows L2

/-! ## names and numbers that are drawn -/
def isLet (c : Nat) : Bool := decide (97 ≤ c ∧ c ≤ 122)
def isSgn (c : Nat) : Bool := decide (97 ≤ c ∧ c ≤ 122) || decide (48 ≤ c ∧ c ≤ 57)
/-- a name -/
def GName (x : Str) : Prop := ∃ c r, x.cps.toList = c :: r ∧ isLet c = true ∧ (∀ s ∈ r, isSgn s = true) ∧ r.length ≤ 11
theorem isLet_sgn {c : Nat} (h : isLet c = true) : isSgn c = true := by simp [isLet, isSgn] at *; omega
def L36 : Str := "abcdefghijklmnopqrstuvwxyz0123456789"
theorem L36_cps : L36.cps.toList = (List.range 26).map (· + 97) ++ (List.range 10).map (· + 48) := by rw [L36, ofS_cps]; decide
theorem L36_len : L36.length = 36 := by rw [len_cps, L36_cps]; rfl
theorem L36_let {m : Nat} (h : m < 26) : isLet (L36.cps.toList.getD m 0) = true := by
  rw [L36_cps]
  revert m
  decide
theorem L36_sgn {m : Nat} (h : m < 36) : isSgn (L36.cps.toList.getD m 0) = true := by
  rw [L36_cps]
  revert m
  decide
theorem word_ok (ns : List Int) {k : Int} (hk : 0 ≤ k ∧ k < 2 ^ 30) : ∃ x, fn__law_word [scr ns, .int k] = some (.ok (.sh (.str x))) ∧ GName x := by
  have hL : (L36.length : Nat) ≤ sizeLine := by rw [L36_len, sizeLine_eq]; decide
  obtain ⟨a, e1, a0, a1⟩ := draw_ok ns (k := k + 1) (size := 26) (by omega) (by decide)
  obtain ⟨b, e2, b0, b1⟩ := draw_ok ns (k := k) (size := 12) (by omega) (by decide)
  have ia := ixT_str hL a0 (by rw [L36_len]; omega)
  have la := L36_let (m := a.toNat) (by omega)
  have loop := forF_inv (tg := tgName 4) (B := lb__law_word_1) (fun ts ρ => ∃ x h, ρ = [some (.sh (scr ns)), some (.sh (.int k)), some (.sh (.str L36)), some (.sh (.str x)), h] ∧ GName x ∧ x.length + ts.length ≤ 12 ∧ ∀ t ∈ ts, ∃ i : Int, t = .sh (.int i) ∧ 0 ≤ i ∧ i < 12)
    (fun t ts ρ ⟨x, h, e, g, l, m⟩ => by
      obtain ⟨i, rfl, i0, i1⟩ := m t (by simp)
      subst e
      obtain ⟨d, e3, d0, d1⟩ := draw_ok ns (k := k + 2 + i) (size := 36) (by omega) (by decide)
      have id := ixT_str hL d0 (by rw [L36_len]; omega)
      have ld := L36_sgn (m := d.toNat) (by omega)
      rw [List.length_cons] at l
      have s1 : (sg L36 d).length = 1 := rfl
      have add := addT_str x (sg L36 d) (by rw [s1, sizeLine_eq]; omega)
      refine ⟨_, [some (.sh (scr ns)), some (.sh (.int k)), some (.sh (.str L36)), some (.sh (.str (x ++ sg L36 d))), some (.sh (.int i))], rfl, .inl (by simp [lb__law_word_1, e3, id, add]), _, _, rfl, ?_, by rw [app_len, s1]; omega, fun t ht => m t (List.mem_cons_of_mem _ ht)⟩
      obtain ⟨c, r, ec, hc, hr, hl⟩ := g
      refine ⟨c, r ++ [L36.cps.toList.getD d.toNat 0], by rw [app_cps, ec]; rfl, hc, fun s hs => ?_, by rw [len_cps, ec] at l; simp at l ⊢; omega⟩
      rcases List.mem_append.mp hs with hs | hs
      · exact hr s hs
      · rw [List.mem_singleton.mp hs]; exact ld)
    (rangeL 0 b) [some (.sh (scr ns)), some (.sh (.int k)), some (.sh (.str L36)), some (.sh (.str (sg L36 a))), none]
    ⟨_, none, rfl, ⟨_, [], rfl, la, by simp, by simp⟩, by rw [rangeL_len]; show 1 + _ ≤ _; omega, fun t ht => by
      obtain ⟨i, e, i0, i1⟩ := rangeL_mem ht
      exact ⟨i, e, i0, by omega⟩⟩
  obtain ⟨ρ', el, x, h, rfl, g, _⟩ := loop
  refine ⟨x, ?_, g⟩
  have hb := small_of (k := b) (by omega)
  simp only [L36] at *
  simp [fn__law_word, fb__law_word, fnF_ap, e1, e2, ia, hb, el]
end K48
end DV

namespace DV
namespace K48
open PySem PySem.Spec PyProof.Rows L2
theorem amount_ok (ns : List Int) {k : Int} (hk : 0 ≤ k ∧ k < 2 ^ 30) : ∃ n, fn__law_amount [scr ns, .int k] = some (.ok (.sh (.int n))) ∧ GNum n := by
  obtain ⟨o, e1, a0, a1⟩ := draw_ok ns (k := k + 1) (size := 480) (by omega) (by decide)
  obtain ⟨b, e2, b0, b1⟩ := draw_ok ns (k := k) (size := 10000) (by omega) (by decide)
  have hl : (6 : Nat) ≤ sizeLine := by rw [sizeLine_eq]; decide
  have hm : mulT (.sh (.int (o / 6 % 10))) (.sh (.int 10000)) = some (.sh (.int (o / 6 % 10 * 10000))) := mulT_int _ _ (.inr (by decide))
  have lim : ∃ l : Int, ixT (.lst [.sh (.int 1), .sh (.int 10), .sh (.int 100), .sh (.int 1000), .sh (.int 10000), .sh (.int 100000)]) (.sh (.int (o % 6))) = some (.sh (.int l)) ∧ 0 < l ∧ l ≤ 100000 := by
    have : o % 6 = 0 ∨ o % 6 = 1 ∨ o % 6 = 2 ∨ o % 6 = 3 ∨ o % 6 = 4 ∨ o % 6 = 5 := by omega
    rcases this with h | h | h | h | h | h <;> rw [h] <;> exact ⟨_, rfl, by decide, by decide⟩
  obtain ⟨l, el, l0, l1⟩ := lim
  have hz : (6 : Nat) ≤ sizeLine := by rw [sizeLine_eq]; decide
  have ht : lstT [.sh (.int 1), .sh (.int 10), .sh (.int 100), .sh (.int 1000), .sh (.int 10000), .sh (.int 100000)] = some (.lst [.sh (.int 1), .sh (.int 10), .sh (.int 100), .sh (.int 1000), .sh (.int 10000), .sh (.int 100000)]) := if_pos hz
  by_cases hq : o / 60 = 0
  · refine ⟨l - 1, ?_, by constructor <;> omega⟩
    simp [fn__law_amount, fb__law_amount, fnF_ap, e1, ht, el, hq]
  · refine ⟨(o / 6 % 10 * 10000 + b) % l, ?_, ⟨Int.emod_nonneg _ (by omega), Int.lt_of_lt_of_le (Int.emod_lt_of_pos _ l0) l1⟩⟩
    simp [fn__law_amount, fb__law_amount, fnF_ap, e1, e2, ht, el, hq, hm, l0]
/-- a stock of names -/
structure Pool (pool : List Str) : Prop where
  ne : pool ≠ []
  len : pool.length ≤ 100
  good : ∀ x ∈ pool, GName x
theorem pool_at {pool : List Str} (h : Pool pool) {r : Int} (h0 : 0 ≤ r) (h1 : r < pool.length) : ∃ x, ixT (.sh (.lst (pool.map D.str))) (.sh (.int r)) = some (.sh (.str x)) ∧ GName x := by
  obtain ⟨m, rfl⟩ := Int.eq_ofNat_of_zero_le h0
  have h2 : m < pool.length := by omega
  refine ⟨pool[m], ?_, h.good _ (List.getElem_mem h2)⟩
  rw [ix_lst h0 (by simpa using h1)]
  simp [List.getElem?_eq_getElem h2]
theorem nm_lt {n : Nat} (h : n ≤ 1000000) : n < sizeLine := by rw [sizeLine_eq]; omega
theorem nm_le {n : Nat} (h : n ≤ 1000000) : n ≤ sizeLine := by rw [sizeLine_eq]; omega
theorem names_ok (ns : List Int) {k c : Int} {pool : List Str} (hp : Pool pool) (hk : 0 ≤ k ∧ k < 2 ^ 20) (hc : 0 ≤ c ∧ c ≤ 100) :
    ∃ xs : List Str, fn__law_names [scr ns, .int k, .int c, .lst (pool.map D.str)] = some (.ok (.sh (.tup (xs.map D.str)))) ∧ xs.length ≤ 100 ∧ ∀ x ∈ xs, GName x := by
  have hl : 0 < pool.length := List.length_pos_iff.mpr hp.ne
  obtain ⟨xs, e, el, g⟩ := compL_list (ρ := [some (.sh (scr ns)), some (.sh (.int k)), some (.sh (.int c)), some (.sh (.lst (pool.map D.str))), none]) (tg := tgName 4) (f := le__law_names_1) (ds := rangeD 0 c) (fun x : Str => T.sh (.str x)) (fun _ x => GName x) (fun d hd => by
    obtain ⟨i, rfl, i0, i1⟩ := rangeD_mem hd
    obtain ⟨r, e1, r0, r1⟩ := draw_ok ns (k := k + i) (size := pool.length) (by omega) (by omega)
    obtain ⟨x, e2, gx⟩ := pool_at hp r0 r1
    exact ⟨_, x, rfl, by simp [le__law_names_1, e1, e2], gx⟩)
  rw [rangeD_len] at el
  refine ⟨xs, ?_, by omega, fun x hx => (g x hx).elim fun _ h => h⟩
  have hb := small_of (k := c) (by omega)
  have h0 := small_of (k := 0) (by omega)
  have hz : xs.length < sizeLine := nm_lt (by omega)
  have ht := tupleT_mk D.str xs
  simp [fn__law_names, fb__law_names, fnF_ap, hb, h0, compZ, e, hz, ht]
theorem amounts_ok (ns : List Int) {k c : Int} (hk : 0 ≤ k ∧ k < 2 ^ 20) (hc : 0 ≤ c ∧ c ≤ 100) :
    ∃ xs : List Int, fn__law_amounts [scr ns, .int k, .int c] = some (.ok (.sh (.tup (xs.map D.int)))) ∧ xs.length ≤ 100 ∧ ∀ x ∈ xs, GNum x := by
  obtain ⟨xs, e, el, g⟩ := compL_list (ρ := [some (.sh (scr ns)), some (.sh (.int k)), some (.sh (.int c)), none]) (tg := tgName 3) (f := le__law_amounts_1) (ds := rangeD 0 c) (fun x : Int => T.sh (.int x)) (fun _ x => GNum x) (fun d hd => by
    obtain ⟨i, rfl, i0, i1⟩ := rangeD_mem hd
    obtain ⟨r, e1, gr⟩ := amount_ok ns (k := k + 2 * i) (by omega)
    have hm : mulT (.sh (.int 2)) (.sh (.int i)) = some (.sh (.int (2 * i))) := mulT_int _ _ (.inl (by decide))
    exact ⟨_, r, rfl, by simp [le__law_amounts_1, e1, hm], gr⟩)
  rw [rangeD_len] at el
  refine ⟨xs, ?_, by omega, fun x hx => (g x hx).elim fun _ h => h⟩
  have hb := small_of (k := c) (by omega)
  have h0 := small_of (k := 0) (by omega)
  have hz : xs.length < sizeLine := nm_lt (by omega)
  have ht := tupleT_mk D.int xs
  simp [fn__law_amounts, fb__law_amounts, fnF_ap, hb, h0, compZ, e, hz, ht]
abbrev Tri := Int × Str × Int
abbrev Pr := Str × Int
def dTri (t : Tri) : D := .tup [.int t.1, .str t.2.1, .int t.2.2]
def dPr (p : Pr) : D := .tup [.str p.1, .int p.2]
def GTri (t : Tri) : Prop := GNum t.1 ∧ GName t.2.1 ∧ GNum t.2.2
def GPr (p : Pr) : Prop := GName p.1 ∧ GNum p.2
theorem tupT_of {ts : List T} (h : ts.length ≤ 1000000) : tupT ts = some (.tup ts) := if_pos (nm_le h)
theorem lstT_of {ts : List T} (h : ts.length ≤ 1000000) : lstT ts = some (.lst ts) := if_pos (nm_le h)
theorem triples_ok (ns : List Int) {k c : Int} {pool : List Str} (hp : Pool pool) (hk : 0 ≤ k ∧ k < 2 ^ 20) (hc : 0 ≤ c ∧ c ≤ 100) :
    ∃ xs : List Tri, fn__law_triples [scr ns, .int k, .int c, .lst (pool.map D.str)] = some (.ok (.lst ((xs.map dTri).map T.sh))) ∧ xs.length ≤ 100 ∧ ∀ x ∈ xs, GTri x := by
  have hl : 0 < pool.length := List.length_pos_iff.mpr hp.ne
  obtain ⟨ρ', el, xs, a, b, e, rfl, g, l, _⟩ := forF_inv (tg := tgName 5) (B := lb__law_triples_1) (fun ts ρ => ∃ (xs : List Tri) (a b e : Option T), ρ = [some (.sh (scr ns)), some (.sh (.int k)), some (.sh (.int c)), some (.sh (.lst (pool.map D.str))), some (.lst ((xs.map dTri).map T.sh)), a, b, e] ∧ (∀ x ∈ xs, GTri x) ∧ xs.length + ts.length ≤ 100 ∧ ∀ t ∈ ts, ∃ i : Int, t = .sh (.int i) ∧ 0 ≤ i ∧ i < 100)
    (fun t ts ρ ⟨xs, a, b, e, er, g, l, m⟩ => by
      obtain ⟨i, rfl, i0, i1⟩ := m t (by simp)
      subst er
      obtain ⟨r, e1, r0, r1⟩ := draw_ok ns (k := k + 5 * i) (size := pool.length) (by omega) (by omega)
      obtain ⟨x, e2, gx⟩ := pool_at hp r0 r1
      obtain ⟨n1, e3, g1⟩ := amount_ok ns (k := k + 5 * i + 1) (by omega)
      obtain ⟨n2, e4, g2⟩ := amount_ok ns (k := k + 5 * i + 3) (by omega)
      have hm : mulT (.sh (.int 5)) (.sh (.int i)) = some (.sh (.int (5 * i))) := mulT_int _ _ (.inl (by decide))
      rw [List.length_cons] at l
      have hz : xs.length < sizeLine := nm_lt (by omega)
      refine ⟨_, [some (.sh (scr ns)), some (.sh (.int k)), some (.sh (.int c)), some (.sh (.lst (pool.map D.str))), some (.lst (((xs ++ [(n1, x, n2)]).map dTri).map T.sh)), some (.sh (.int i)), some (.sh (.int (k + 5 * i))), some (.sh (.str x))], rfl, .inl ?_, _, _, _, _, rfl, ?_, by simp; omega, fun t ht => m t (List.mem_cons_of_mem _ ht)⟩
      · simp [lb__law_triples_1, hm, e1, e2, e3, e4, tupT_of, hz, dTri]
      · intro y hy
        rcases List.mem_append.mp hy with hy | hy
        · exact g y hy
        · rw [List.mem_singleton.mp hy]; exact ⟨g1, gx, g2⟩)
    (rangeL 0 c) [some (.sh (scr ns)), some (.sh (.int k)), some (.sh (.int c)), some (.sh (.lst (pool.map D.str))), some (.lst []), none, none, none]
    ⟨[], none, none, none, rfl, by simp, by rw [rangeL_len]; simp; omega, fun t ht => by
      obtain ⟨i, e, i0, i1⟩ := rangeL_mem ht
      exact ⟨i, e, i0, by omega⟩⟩
  refine ⟨xs, ?_, by simpa using l, g⟩
  have hb := small_of (k := c) (by omega)
  simp [fn__law_triples, fb__law_triples, fnF_ap, hb, lstT_of, el]
theorem pairs_ok (ns : List Int) {k c : Int} {pool : List Str} (hp : Pool pool) (hk : 0 ≤ k ∧ k < 2 ^ 20) (hc : 0 ≤ c ∧ c ≤ 100) :
    ∃ xs : List Pr, fn__law_pairs [scr ns, .int k, .int c, .lst (pool.map D.str)] = some (.ok (.lst ((xs.map dPr).map T.sh))) ∧ xs.length ≤ 100 ∧ ∀ x ∈ xs, GPr x := by
  have hl : 0 < pool.length := List.length_pos_iff.mpr hp.ne
  obtain ⟨ρ', el, xs, a, b, rfl, g, l, _⟩ := forF_inv (tg := tgName 5) (B := lb__law_pairs_1) (fun ts ρ => ∃ (xs : List Pr) (a b : Option T), ρ = [some (.sh (scr ns)), some (.sh (.int k)), some (.sh (.int c)), some (.sh (.lst (pool.map D.str))), some (.lst ((xs.map dPr).map T.sh)), a, b] ∧ (∀ x ∈ xs, GPr x) ∧ xs.length + ts.length ≤ 100 ∧ ∀ t ∈ ts, ∃ i : Int, t = .sh (.int i) ∧ 0 ≤ i ∧ i < 100)
    (fun t ts ρ ⟨xs, a, b, er, g, l, m⟩ => by
      obtain ⟨i, rfl, i0, i1⟩ := m t (by simp)
      subst er
      obtain ⟨r, e1, r0, r1⟩ := draw_ok ns (k := k + 3 * i) (size := pool.length) (by omega) (by omega)
      obtain ⟨x, e2, gx⟩ := pool_at hp r0 r1
      obtain ⟨n1, e3, g1⟩ := amount_ok ns (k := k + 3 * i + 1) (by omega)
      have hm : mulT (.sh (.int 3)) (.sh (.int i)) = some (.sh (.int (3 * i))) := mulT_int _ _ (.inl (by decide))
      rw [List.length_cons] at l
      have hz : xs.length < sizeLine := nm_lt (by omega)
      refine ⟨_, [some (.sh (scr ns)), some (.sh (.int k)), some (.sh (.int c)), some (.sh (.lst (pool.map D.str))), some (.lst (((xs ++ [(x, n1)]).map dPr).map T.sh)), some (.sh (.int i)), some (.sh (.str x))], rfl, .inl ?_, _, _, _, rfl, ?_, by simp; omega, fun t ht => m t (List.mem_cons_of_mem _ ht)⟩
      · simp [lb__law_pairs_1, hm, e1, e2, e3, tupT_of, hz, dPr]
      · intro y hy
        rcases List.mem_append.mp hy with hy | hy
        · exact g y hy
        · rw [List.mem_singleton.mp hy]; exact ⟨gx, g1⟩)
    (rangeL 0 c) [some (.sh (scr ns)), some (.sh (.int k)), some (.sh (.int c)), some (.sh (.lst (pool.map D.str))), some (.lst []), none, none]
    ⟨[], none, none, rfl, by simp, by rw [rangeL_len]; simp; omega, fun t ht => by
      obtain ⟨i, e, i0, i1⟩ := rangeL_mem ht
      exact ⟨i, e, i0, by omega⟩⟩
  refine ⟨xs, ?_, by simpa using l, g⟩
  have hb := small_of (k := c) (by omega)
  simp [fn__law_pairs, fb__law_pairs, fnF_ap, hb, lstT_of, el]
end K48
end DV

namespace DV
open PySem PySem.Spec PyProof.Rows L2
theorem rep_map {α β : Type} (f : α → β) (n : Nat) (l : List α) : (List.replicate n (l.map f)).flatten = ((List.replicate n l).flatten).map f := by
  rw [List.map_flatten, List.map_replicate]
theorem rep_mem {α : Type} {n : Nat} {l : List α} {x : α} (h : x ∈ (List.replicate n l).flatten) : x ∈ l := by
  obtain ⟨m, h1, h2⟩ := List.mem_flatten.mp h
  rwa [(List.mem_replicate.mp h1).2] at h2
theorem rep_len {α : Type} (n : Nat) (l : List α) : ((List.replicate n l).flatten).length = n * l.length := by
  simp
theorem cutD_map {α β : Type} (f : α → β) (l : List α) (lo hi : Option Int) : cutD (l.map f) lo hi = (cutD l lo hi).map f := by
  simp [cutD]
theorem cutD_mem {α : Type} {l : List α} {lo hi : Option Int} {x : α} (h : x ∈ cutD l lo hi) : x ∈ l := List.mem_of_mem_drop (List.mem_of_mem_take h)
theorem cutD_len {α : Type} (l : List α) (lo hi : Option Int) : (cutD l lo hi).length ≤ l.length := by simp [cutD]; omega
namespace K48
structure Ent where
  ns : List Str
  row : List Int
  car : List Int
  mv : List Tri
def dEnt (e : Ent) : D := .tup [.tup (e.ns.map D.str), .tup (e.row.map D.int), .tup (e.car.map D.int), .lst (e.mv.map dTri)]
structure GEnt (e : Ent) : Prop where
  ns : ∀ x ∈ e.ns, GName x
  row : ∀ x ∈ e.row, GNum x
  car : ∀ x ∈ e.car, GNum x
  mv : ∀ x ∈ e.mv, GTri x
  l1 : e.ns.length ≤ 100
  l2 : e.row.length ≤ 500
  l3 : e.car.length ≤ 500
  l4 : e.mv.length ≤ 100
inductive Pap where
  | mv (l : List Tri) | ct (l : List Pr) | cs (ns : List Str) (row : List Int) (l : List Pr) | cv (l : List Ent)
def dPap : Pap → D
  | .mv l => .tup [.str "movement", .lst (l.map dTri)]
  | .ct l => .tup [.str "cut", .lst (l.map dPr)]
  | .cs ns row l => .tup [.str "course", .tup (ns.map D.str), .tup (row.map D.int), .lst (l.map dPr)]
  | .cv l => .tup [.str "cover", .lst (l.map dEnt)]
def GPap : Pap → Prop
  | .mv l => l.length ≤ 500 ∧ ∀ x ∈ l, GTri x
  | .ct l => l.length ≤ 500 ∧ ∀ x ∈ l, GPr x
  | .cs ns row l => (ns.length ≤ 500 ∧ ∀ x ∈ ns, GName x) ∧ (row.length ≤ 500 ∧ ∀ x ∈ row, GNum x) ∧ (l.length ≤ 500 ∧ ∀ x ∈ l, GPr x)
  | .cv l => l.length ≤ 500 ∧ ∀ x ∈ l, GEnt x
theorem mul_tup {α : Type} (f : α → D) {l : List α} {k : Int} (hk : 1 ≤ k ∧ k ≤ 5) (hl : l.length ≤ 100) : mulT (.sh (.tup (l.map f))) (.sh (.int k)) = some (.sh (.tup (((List.replicate k.toNat l).flatten).map f))) := by
  rw [mulT_tup (by omega) (by simp; omega), rep_map]
theorem mul_lst {α : Type} (f : α → D) {l : List α} {k : Int} (hk : 1 ≤ k ∧ k ≤ 5) (hl : l.length ≤ 100) : mulT (.sh (.lst (l.map f))) (.sh (.int k)) = some (lstS (((List.replicate k.toNat l).flatten).map f)) := by
  rw [mulT_lst (viewL_sh _) ⟨by omega, by omega, ?_⟩, rep_map]
  rw [List.length_map]
  refine nm_le ?_
  have : k.toNat ≤ 5 := by omega
  calc _ ≤ 100 * 5 := Nat.mul_le_mul hl this
    _ ≤ _ := by decide
theorem rep_le {α : Type} {l : List α} {k : Int} (hk : 1 ≤ k ∧ k ≤ 5) (hl : l.length ≤ 100) : ((List.replicate k.toNat l).flatten).length ≤ 500 := by
  rw [rep_len]
  have : k.toNat ≤ 5 := by omega
  calc _ ≤ 5 * 100 := Nat.mul_le_mul this hl
    _ ≤ _ := by decide
theorem entry_ok (ns : List Int) {k tm : Int} {pool : List Str} (hp : Pool pool) (hk : 0 ≤ k ∧ k < 2 ^ 19) (ht : 1 ≤ tm ∧ tm ≤ 5) :
    ∃ (e : Ent) (t : T), fn__law_entry [scr ns, .int k, .lst (pool.map D.str), .int tm] = some (.ok t) ∧ t.d = dEnt e ∧ GEnt e := by
  obtain ⟨a, e1, a0, a1⟩ := draw_ok ns (k := k) (size := 6) (by omega) (by decide)
  obtain ⟨b, e2, b0, b1⟩ := draw_ok ns (k := k + 1) (size := 9) (by omega) (by decide)
  obtain ⟨c, e3, c0, c1⟩ := draw_ok ns (k := k + 2) (size := 9) (by omega) (by decide)
  obtain ⟨d, e4, d0, d1⟩ := draw_ok ns (k := k + 3) (size := 5) (by omega) (by decide)
  obtain ⟨xs, f1, l1, g1⟩ := names_ok ns (k := k + 4) (c := a) hp (by omega) (by omega)
  obtain ⟨r, f2, l2, g2⟩ := amounts_ok ns (k := k + 12) (c := b) (by omega) (by omega)
  obtain ⟨cr, f3, l3, g3⟩ := amounts_ok ns (k := k + 28) (c := c) (by omega) (by omega)
  obtain ⟨m, f4, l4, g4⟩ := triples_ok ns (k := k + 44) (c := d) hp (by omega) (by omega)
  refine ⟨⟨xs, (List.replicate tm.toNat r).flatten, (List.replicate tm.toNat cr).flatten, m⟩, .tup [.sh (.tup (xs.map D.str)), .sh (.tup (((List.replicate tm.toNat r).flatten).map D.int)), .sh (.tup (((List.replicate tm.toNat cr).flatten).map D.int)), .lst ((m.map dTri).map T.sh)], ?_, by simp [dEnt], ⟨g1, fun x hx => g2 x (rep_mem hx), fun x hx => g3 x (rep_mem hx), g4, l1, rep_le ht l2, rep_le ht l3, l4⟩⟩
  have m1 := mul_tup D.int (l := r) ht l2
  have m2 := mul_tup D.int (l := cr) ht l3
  simp [fn__law_entry, fb__law_entry, fnF_ap, e1, e2, e3, e4, f1, f2, f3, f4, m1, m2, tupT_of]
end K48
end DV

namespace DV
open PySem PySem.Spec PyProof.Rows L2
namespace K48
def gnameB (x : Str) : Bool := match x.cps.toList with
  | c :: r => isLet c && r.all isSgn && decide (r.length ≤ 11)
  | [] => false
theorem gname_of {x : Str} (h : gnameB x = true) : GName x := by
  unfold gnameB at h
  split at h
  · rename_i c r e
    simp only [Bool.and_eq_true, List.all_eq_true, decide_eq_true_eq] at h
    exact ⟨c, r, e, h.1.1, h.1.2, h.2⟩
  · cases h
def lits : List Str := ["troubles", "people", "carried", "cut", "course", "cover", "movement", "t", "people1", "troublesx", "zzzzzzzzzzzz", "a0"]
theorem lits_good : ∀ x ∈ lits, GName x := fun x hx => gname_of (by
  have : lits.all gnameB = true := by decide +kernel
  exact List.all_eq_true.mp this x hx)
theorem cutTL_sh (l : List D) (lo hi : Option Int) : cutTL (.sh (.lst l)) lo hi = some (lstS (cutD l lo hi)) := rfl
@[simp] theorem lstS_d (l : List D) : (lstS l).d = .lst l := by simp [lstS]
theorem papers_ok (ns : List Int) : ∃ (ps : List Pap) (t : T), fn__law_papers [scr ns] = some (.ok t) ∧ t.d = .lst (ps.map dPap) ∧ ps.length ≤ 100 ∧ ∀ p ∈ ps, GPap p := by
  obtain ⟨ws, ew, lw, gw⟩ := compL_list (ρ := [some (.sh (scr ns)), some (.sh (.lst [.str "troubles", .str "people", .str "carried", .str "cut", .str "course", .str "cover", .str "movement", .str "t", .str "people1", .str "troublesx"])), none, none, none, none, none, none, none, none, none, none]) (tg := tgName 11) (f := le__law_papers_1) (ds := rangeD 0 8) (fun x : Str => T.sh (.str x)) (fun _ x => GName x) (fun d hd => by
    obtain ⟨i, rfl, i0, i1⟩ := rangeD_mem hd
    obtain ⟨x, e1, gx⟩ := word_ok ns (k := 13 * i) (by omega)
    have hm : mulT (.sh (.int 13)) (.sh (.int i)) = some (.sh (.int (13 * i))) := mulT_int _ _ (.inl (by decide))
    exact ⟨_, x, rfl, by simp [le__law_papers_1, e1, hm], gx⟩)
  have lw' : ws.length = 8 := by rw [lw, rangeD_len]; rfl
  have hp : Pool (lits ++ ws) := ⟨by simp [lits], by simp [lits, lw'], fun x hx => by
    rcases List.mem_append.mp hx with hx | hx
    · exact lits_good x hx
    · exact (gw x hx).elim fun _ h => h⟩
  have ad2 : addT (lstS (lits.map D.str)) (.lst (ws.map fun x => T.sh (.str x))) = some (lstS ((lits ++ ws).map D.str)) := by
      rw [List.map_append]
      exact addT_lst (viewL_lstS _) (viewL_comp D.str ws) (nm_le (by simp [lits, lw']))
  generalize lits ++ ws = pool at hp ad2
  obtain ⟨q, e0, q0, q1⟩ := draw_ok ns (k := 110) (size := 8) (by omega) (by decide)
  obtain ⟨tm, htm, ht⟩ : ∃ tm : Int, tm = 1 + 4 * (if q = 0 then 1 else 0) ∧ 1 ≤ tm ∧ tm ≤ 5 := ⟨_, rfl, by split <;> omega⟩
  have mt : mulT (.sh (.int 4)) (.sh (.int (if q = 0 then 1 else 0))) = some (.sh (.int (4 * (if q = 0 then 1 else 0)))) := mulT_int _ _ (.inl (by decide))
  obtain ⟨a1, e1, p1, r1⟩ := draw_ok ns (k := 111) (size := 13) (by omega) (by decide)
  obtain ⟨a2, e2, p2, r2⟩ := draw_ok ns (k := 112) (size := 13) (by omega) (by decide)
  obtain ⟨a3, e3, p3, r3⟩ := draw_ok ns (k := 113) (size := 9) (by omega) (by decide)
  obtain ⟨a4, e4, p4, r4⟩ := draw_ok ns (k := 114) (size := 9) (by omega) (by decide)
  obtain ⟨a5, e5, p5, r5⟩ := draw_ok ns (k := 115) (size := 9) (by omega) (by decide)
  obtain ⟨a6, e6, p6, r6⟩ := draw_ok ns (k := 116) (size := 6) (by omega) (by decide)
  obtain ⟨a7, e7, p7, r7⟩ := draw_ok ns (k := 117) (size := 8) (by omega) (by decide)
  obtain ⟨m1, f1, l1, g1⟩ := triples_ok ns (k := 150) (c := a1) hp (by omega) (by omega)
  obtain ⟨m2, f2, l2, g2⟩ := pairs_ok ns (k := 210) (c := a2) hp (by omega) (by omega)
  obtain ⟨m3, f3, l3, g3⟩ := names_ok ns (k := 250) (c := a3) hp (by omega) (by omega)
  obtain ⟨m4, f4, l4, g4⟩ := amounts_ok ns (k := 260) (c := a4) (by omega) (by omega)
  obtain ⟨m5, f5, l5, g5⟩ := pairs_ok ns (k := 280) (c := a5) hp (by omega) (by omega)
  have n1 := mul_lst dTri ht l1
  have n2 := mul_lst dPr ht l2
  have n3 := mul_tup D.str ht l3
  have n4 := mul_tup D.int ht l4
  have n5 := mul_lst dPr ht l5
  have z1 := rep_le ht l1
  have z2 := rep_le ht l2
  have z3 := rep_le ht l3
  have z4 := rep_le ht l4
  have z5 := rep_le ht l5
  have y1 : ∀ x ∈ (List.replicate tm.toNat m1).flatten, GTri x := fun x hx => g1 x (rep_mem hx)
  have y2 : ∀ x ∈ (List.replicate tm.toNat m2).flatten, GPr x := fun x hx => g2 x (rep_mem hx)
  have y3 : ∀ x ∈ (List.replicate tm.toNat m3).flatten, GName x := fun x hx => g3 x (rep_mem hx)
  have y4 : ∀ x ∈ (List.replicate tm.toNat m4).flatten, GNum x := fun x hx => g4 x (rep_mem hx)
  have y5 : ∀ x ∈ (List.replicate tm.toNat m5).flatten, GPr x := fun x hx => g5 x (rep_mem hx)
  generalize (List.replicate tm.toNat m1).flatten = s1 at *
  generalize (List.replicate tm.toNat m2).flatten = s2 at *
  generalize (List.replicate tm.toNat m3).flatten = s3 at *
  generalize (List.replicate tm.toNat m4).flatten = s4 at *
  generalize (List.replicate tm.toNat m5).flatten = s5 at *
  obtain ⟨es, ee, le, ge⟩ := compL_list (ρ := [some (.sh (scr ns)), some (.sh (.lst (pool.map D.str))), some (.sh (.int tm)), some (.sh (.lst (s1.map dTri))), some (.sh (.lst (s2.map dPr))), some (.sh (.tup (s3.map D.str))), some (.sh (.tup (s4.map D.int))), some (.sh (.lst (s5.map dPr))), none, none, none, none]) (tg := tgName 11) (f := le__law_papers_2) (ds := rangeD 0 a6) (fun e : Ent => T.sh (dEnt e)) (fun _ x => GEnt x) (fun d hd => by
    obtain ⟨i, rfl, i0, i1⟩ := rangeD_mem hd
    obtain ⟨x, t, ex, et, gx⟩ := entry_ok ns (k := 320 + 100 * i) hp (by omega) ht
    have hm : mulT (.sh (.int 100)) (.sh (.int i)) = some (.sh (.int (100 * i))) := mulT_int _ _ (.inl (by decide))
    exact ⟨_, x, rfl, by simp [le__law_papers_2, ex, et, hm], gx⟩)
  rw [rangeD_len] at le
  have le' : es.length ≤ 100 := by omega
  have ne : mulT (.lst (es.map fun e => T.sh (dEnt e))) (.sh (.int tm)) = some (lstS (((List.replicate tm.toNat es).flatten).map dEnt)) := by
    have hv : viewL (.lst (es.map fun e => T.sh (dEnt e))) = some (es.map dEnt) := viewL_comp dEnt es
    rw [mulT_lst hv ⟨by omega, by omega, ?_⟩, rep_map]
    rw [List.length_map]
    refine nm_le ?_
    have : tm.toNat ≤ 5 := by omega
    calc _ ≤ 100 * 5 := Nat.mul_le_mul le' this
      _ ≤ _ := by decide
  have ze := rep_le ht le'
  have ye : ∀ x ∈ (List.replicate tm.toNat es).flatten, GEnt x := fun x hx => (ge x (rep_mem hx)).elim fun _ h => h
  generalize (List.replicate tm.toNat es).flatten = s6 at *
  obtain ⟨all, hall⟩ : ∃ all : List Pap, all = [.mv s1, .ct s2, .cs s3 s4 s5, .cv s6, .mv [], .ct [], .cs [] [] [], .cv []] := ⟨_, rfl⟩
  have ad3 : addT (.sh (.lst [dPap (.mv s1), dPap (.ct s2), dPap (.cs s3 s4 s5), dPap (.cv s6)])) (.sh (.lst [dPap (.mv []), dPap (.ct []), dPap (.cs [] [] []), dPap (.cv [])])) = some (lstS (all.map dPap)) := by
    rw [hall]
    exact addT_lst (viewL_sh _) rfl (nm_le (by simp))
  have ga : ∀ p ∈ all, GPap p := by
    intro p hp
    simp only [hall, List.mem_cons, List.mem_nil_iff, or_false] at hp
    rcases hp with rfl | rfl | rfl | rfl | rfl | rfl | rfl | rfl
    · exact ⟨z1, y1⟩
    · exact ⟨z2, y2⟩
    · exact ⟨⟨z3, y3⟩, ⟨z4, y4⟩, ⟨z5, y5⟩⟩
    · exact ⟨ze, ye⟩
    all_goals simp [GPap]
  refine ⟨cutD all (some a7) none ++ cutD all none (some a7), lstS ((cutD all (some a7) none ++ cutD all none (some a7)).map dPap), ?_, by simp, ?_, ?_⟩
  · have b8 := small_of (k := 8) (by omega)
    have b0 := small_of (k := 0) (by omega)
    have b6 := small_of (k := a6) (by omega)
    have w8 : ws.length < sizeLine := nm_lt (by omega)
    have e8 : es.length < sizeLine := nm_lt (by omega)
    have ad1 : addT (.sh (.lst [.str "troubles", .str "people", .str "carried", .str "cut", .str "course", .str "cover", .str "movement", .str "t", .str "people1", .str "troublesx"])) (.lst [.sh (.str "zzzzzzzzzzzz"), .sh (.str "a0")]) = some (lstS (lits.map D.str)) := addT_lst (viewL_sh _) rfl (nm_le (by decide))
    have ad4 : addT (lstS ((cutD all (some a7) none).map dPap)) (lstS ((cutD all none (some a7)).map dPap)) = some (lstS ((cutD all (some a7) none ++ cutD all none (some a7)).map dPap)) := by
      rw [List.map_append]
      refine addT_lst (viewL_lstS _) (viewL_lstS _) (nm_le ?_)
      have h1 := cutD_len all (some a7) none
      have h2 := cutD_len all none (some a7)
      have : all.length = 8 := by rw [hall]; rfl
      simp only [List.length_map]
      omega
    simp only [dPap, List.map_nil] at ad3
    generalize cutD all (some a7) none ++ cutD all none (some a7) = out at *
    simp [fn__law_papers, fb__law_papers, fnF_ap, lstT_of, b8, b0, b6, compZ, ew, w8, e8, ad1, ad2, e0, mt, ← htm, e1, e2, e3, e4, e5, e6, e7, f1, f2, f3, f4, f5, n1, n2, n3, n4, n5, ee, ne, tupT_of, ad3, cutTL_sh, cutD_map, ad4]
  · have h1 := cutD_len all (some a7) none
    have h2 := cutD_len all none (some a7)
    have : all.length = 8 := by rw [hall]; rfl
    rw [List.length_append]
    omega
  · intro p hp
    rcases List.mem_append.mp hp with hp | hp
    · exact ga p (cutD_mem hp)
    · exact ga p (cutD_mem hp)
end K48
end DV

namespace DV
open PySem PySem.Spec PyProof.Rows L2
@[simp] theorem ofS_inj {a b : String} : (Str.ofString a = Str.ofString b) ↔ a = b := by
  constructor
  · intro h
    have := congrArg (fun s : Str => s.cps.toList) h
    simp only [ofS_cps] at this
    have inj : ∀ {l m : List Char}, l.map Char.toNat = m.map Char.toNat → l = m := by
      intro l
      induction l with
      | nil => intro m h; cases m with | nil => rfl | cons _ _ => simp at h
      | cons x l ih =>
        intro m h
        cases m with
        | nil => simp at h
        | cons y m =>
          simp only [List.map_cons, List.cons.injEq] at h
          rw [Char.toNat_inj.mp h.1, ih h.2]
    exact String.toList_inj.mp (inj this)
  · rintro rfl; rfl
section
variable {a b c d : D} {l : List D}
theorem ixN_nat {n m : Nat} (h : m < n) : ixN n (m : Int) = some m := by
  unfold ixN
  rw [if_pos (by omega), if_pos (by omega)]
  rfl
theorem ixT_tupn {n : Nat} (h : n < l.length) : ixT (.sh (.tup l)) (.sh (.int (n : Int))) = some (.sh l[n]) := by
  simp [ixT, itemsT, atI, ixN_nat h, h]
theorem ixT_lstn {n : Nat} (h : n < l.length) : ixT (.sh (.lst l)) (.sh (.int (n : Int))) = some (.sh l[n]) := by
  simp [ixT, itemsT, atI, ixN_nat h, h]
@[simp] theorem ixT_tup0 : ixT (.sh (.tup (a :: l))) (.sh (.int 0)) = some (.sh a) := ixT_tupn (n := 0) (by simp)
@[simp] theorem ixT_tup1 : ixT (.sh (.tup (a :: b :: l))) (.sh (.int 1)) = some (.sh b) := ixT_tupn (n := 1) (by simp)
@[simp] theorem ixT_tup2 : ixT (.sh (.tup (a :: b :: c :: l))) (.sh (.int 2)) = some (.sh c) := ixT_tupn (n := 2) (by simp)
@[simp] theorem ixT_tup3 : ixT (.sh (.tup (a :: b :: c :: d :: l))) (.sh (.int 3)) = some (.sh d) := ixT_tupn (n := 3) (by simp)
@[simp] theorem ixT_lst0 : ixT (.sh (.lst (a :: l))) (.sh (.int 0)) = some (.sh a) := ixT_lstn (n := 0) (by simp)
@[simp] theorem ixT_lst1 : ixT (.sh (.lst (a :: b :: l))) (.sh (.int 1)) = some (.sh b) := ixT_lstn (n := 1) (by simp)
@[simp] theorem ixT_lst2 : ixT (.sh (.lst (a :: b :: c :: l))) (.sh (.int 2)) = some (.sh c) := ixT_lstn (n := 2) (by simp)
end
@[simp] theorem strsD_map : ∀ l : List Str, strsD (l.map D.str) = some l
  | [] => rfl
  | x :: l => by simp [strsD, strsD_map l]
@[simp] theorem seqD_lst (l : List D) : seqD (.lst l) = some l := rfl
@[simp] theorem seqD_tup (l : List D) : seqD (.tup l) = some l := rfl
theorem compL_as {α : Type} {mk : α → D} {g : α → T} {ρ : Env} {tg : T → FS} {f : FE} : ∀ {as : List α}, (∀ a ∈ as, ∃ ρ1, tg (.sh (mk a)) ρ = some (.nx ρ1) ∧ f ρ1 = some (.ok (g a))) → compL tg yesB f ρ (as.map mk) = some (as.map g)
  | [], _ => rfl
  | a :: as, h => by
    obtain ⟨ρ1, e1, e2⟩ := h a (by simp)
    have ih := compL_as (as := as) fun x hx => h x (List.mem_cons_of_mem _ hx)
    simp only [List.map_cons, compL, e1, yesB, e2, ih]
    rfl
/-- the weight of lines -/
def wt (l : List Str) : Nat := (l.map (·.length)).sum + l.length
theorem wt_nil : wt [] = 0 := rfl
theorem wt_cons (x : Str) (l : List Str) : wt (x :: l) = x.length + 1 + wt l := by simp [wt]; omega
theorem wt_append (l m : List Str) : wt (l ++ m) = wt l + wt m := by simp [wt]; omega
theorem wt_le {k n : Nat} : ∀ {l : List Str}, (∀ x ∈ l, x.length ≤ k) → l.length ≤ n → wt l ≤ n * (k + 1) := fun {l} h hn => by
  have : wt l ≤ l.length * (k + 1) := by
    clear hn
    induction l with
    | nil => simp [wt_nil]
    | cons x l ih =>
      have := ih fun y hy => h y (List.mem_cons_of_mem _ hy)
      have := h x (by simp)
      rw [wt_cons, List.length_cons, Nat.succ_mul]
      omega
  exact Nat.le_trans this (Nat.mul_le_mul_right _ hn)
theorem wt_flat {α : Type} {f : α → List Str} {k n : Nat} {l : List α} (h : ∀ x ∈ l, wt (f x) ≤ k) (hn : l.length ≤ n) : wt (l.flatMap f) ≤ n * k := by
  have : wt (l.flatMap f) ≤ l.length * k := by
    clear hn
    induction l with
    | nil => simp [wt_nil]
    | cons x l ih =>
      have := ih fun y hy => h y (List.mem_cons_of_mem _ hy)
      have := h x (by simp)
      rw [List.flatMap_cons, wt_append, List.length_cons, Nat.succ_mul]
      omega
  exact Nat.le_trans this (Nat.mul_le_mul_right _ hn)
theorem len_le_wt (l : List Str) : l.length ≤ wt l := by simp [wt]
theorem joinT_ok {c : Nat} {t : T} {l : List Str} (ht : t.d = .lst (l.map D.str)) (h : wt l ≤ 16777216) : joinT (sgn c) t = some (.sh (.str (Str.join (sgn c) l))) := by
  have h1 : (sgn c).length = 1 := rfl
  simp only [joinT, ht, seqD_lst, Option.bind_some, strsD_map, h1, Nat.mul_one]
  unfold wt at h
  rw [if_pos h, tjoin_eq]
theorem join_wt (c : Nat) (l : List Str) : (Str.join (sgn c) l).length ≤ wt l := by
  have h1 : (sgn c).length = 1 := rfl
  have := join_len (sgn c) l
  rw [h1, Nat.mul_one] at this
  exact this
theorem join_snoc (y x : Str) : ∀ {l : List Str}, l ≠ [] → Str.join y (l ++ [x]) = Str.join y l ++ y ++ x
  | [], h => absurd rfl h
  | [a], _ => rfl
  | a :: b :: r, _ => by
    have ih := join_snoc y x (l := b :: r) (by simp)
    show a ++ y ++ Str.join y ((b :: r) ++ [x]) = _
    rw [ih, join_cons2]
    simp only [app_assoc]
namespace K48
def sp : Str := sgn 32
def nl : Str := sgn 10
@[simp] theorem sp_eq : Str.ofString " " = sp := str_ext (by rw [ofS_cps]; rfl)
@[simp] theorem nl_eq : Str.ofString "\n" = nl := str_ext (by rw [ofS_cps]; rfl)
theorem GName.len {x : Str} (h : GName x) : 1 ≤ x.length ∧ x.length ≤ 12 := by
  obtain ⟨c, r, e, _, _, l⟩ := h
  rw [len_cps, e, List.length_cons]
  omega
theorem isSgn_ne {s : Nat} (h : isSgn s = true) : s ≠ 10 ∧ s ≠ 32 := by simp [isSgn] at h; omega
theorem GName.signs {x : Str} (h : GName x) : ∀ s ∈ x.cps.toList, isSgn s = true := by
  obtain ⟨c, r, e, hc, hr, _⟩ := h
  intro s hs
  rw [e] at hs
  rcases List.mem_cons.mp hs with rfl | hs
  · exact isLet_sgn hc
  · exact hr s hs
theorem GName.free {x : Str} (h : GName x) : Free 10 x ∧ Free 32 x := ⟨fun z => (isSgn_ne (h.signs _ z)).1 rfl, fun z => (isSgn_ne (h.signs _ z)).2 rfl⟩
theorem num_free {n : Int} (h : GNum n) : Free 10 (num n) ∧ Free 32 (num n) := ⟨fun z => by have := num_digits h.1 _ z; omega, fun z => by have := num_digits h.1 _ z; omega⟩

/-! ## the lines of a paper -/
def lTri (t : Tri) : Str := Str.join sp [num t.1, t.2.1, num t.2.2]
def lPr (p : Pr) : Str := Str.join sp [p.1, num p.2]
def lNs (l : List Str) : Str := Str.join sp ("troubles" :: l)
def lRow (l : List Int) : Str := Str.join sp ("people" :: l.map num)
def lCar (l : List Int) : Str := Str.join sp ("carried" :: l.map num)
def lEnt (e : Ent) : List Str := lNs e.ns :: lRow e.row :: lCar e.car :: e.mv.map lTri
def lines : Pap → List Str
  | .mv l => "movement" :: l.map lTri
  | .ct l => "cut" :: l.map lPr
  | .cs ns row l => "course" :: lNs ns :: lRow row :: l.map lPr
  | .cv l => "cover" :: l.flatMap lEnt
theorem lTri_eq (t : Tri) : lTri t = num t.1 ++ sp ++ (t.2.1 ++ sp ++ num t.2.2) := rfl
theorem lPr_eq (p : Pr) : lPr p = p.1 ++ sp ++ num p.2 := rfl
theorem sp_len : sp.length = 1 := rfl
theorem lTri_len {t : Tri} (h : GTri t) : (lTri t).length ≤ 24 := by
  have h1 := num_len h.1
  have h2 := h.2.1.len
  have h3 := num_len h.2.2
  rw [lTri_eq]
  simp only [app_len, sp_len]
  omega
theorem lPr_len {t : Pr} (h : GPr t) : (lPr t).length ≤ 18 := by
  have h1 := num_len h.2
  have h2 := h.1.len
  rw [lPr_eq]
  simp only [app_len, sp_len]
  omega
/-- first and items -/
def Fits (f : Str) (n : Nat) (l : List Str) : Prop := f.length ≤ 12 ∧ l.length ≤ n ∧ ∀ x ∈ l, x.length ≤ 12
theorem Fits.wt {f : Str} {n : Nat} {l : List Str} (h : Fits f n l) : DV.wt (f :: l) ≤ (n + 1) * 13 :=
  wt_le (fun x hx => by
    rcases List.mem_cons.mp hx with rfl | hx
    · exact h.1
    · exact h.2.2 x hx) (by rw [List.length_cons]; have := h.2.1; omega)
theorem item_line_ok {f : Str} {n : Nat} {ds : List D} {l : List Str} (hn : n ≤ 1000) (h : Fits f n l) {α : Type} {as : List α} {mk : α → D} {sv : α → Str} (e1 : ds = as.map mk) (e2 : l = as.map sv) (hs : ∀ a ∈ as, strD [mk a] = some (.str (sv a))) :
    fn_item_line [.str f, .tup ds] = some (.ok (.sh (.str (Str.join sp (f :: l))))) := by
  subst e1
  subst e2
  have e := compL_as (ρ := [some (.sh (.str f)), some (.sh (.tup (as.map mk))), none]) (tg := tgName 2) (f := le_item_line_1) (as := as) (mk := mk) (g := fun a => T.sh (.str (sv a))) (fun a ha => ⟨_, rfl, by simp [le_item_line_1, hs a ha]⟩)
  have hw := h.wt
  have hl := h.2.1
  rw [List.length_map] at hl
  have hz : as.length < sizeLine := nm_lt (by omega)
  have ad : addT (.lst [.sh (.str f)]) (.lst (as.map fun a => T.sh (.str (sv a)))) = some (lstS ((f :: as.map sv).map D.str)) := by
    have := addT_lst (a := [.str f]) (t := .lst [.sh (.str f)]) rfl (viewL_comp (fun a => D.str (sv a)) as) (nm_le (by simp; omega))
    rw [List.map_cons, List.map_map]
    exact this
  have jn := joinT_ok (c := 32) (t := lstS ((f :: as.map sv).map D.str)) (l := f :: as.map sv) (lstS_d _) (by
    have : (n + 1) * 13 ≤ 1001 * 13 := Nat.mul_le_mul_right _ (by omega)
    omega)
  have jn' : joinT sp (lstS ((f :: as.map sv).map D.str)) = some (.sh (.str (Str.join sp (f :: as.map sv)))) := jn
  simp only [List.map_cons, List.map_map] at ad jn'
  simp [fn_item_line, fb_item_line, fnF_ap, lstT_of, compZ, e, hz, ad, jn']
end K48
end DV

namespace DV
open PySem PySem.Spec PyProof.Rows L2
namespace K48
theorem fmtT_str {x : Str} (h : x.length ≤ 1000000) : fmtT (.sh (.str x)) = some x := by simp [fmtT, nm_le h]
theorem fmtT_num {n : Int} (h : GNum n) : fmtT (.sh (.int n)) = some (num n) := by simp only [fmtT, if_pos (num_log h)]; rfl
theorem strD_num {n : Int} (h : GNum n) : strD [.int n] = some (.str (num n)) := by simp only [strD, if_pos (num_log h)]; rfl
theorem lTri_eq2 (t : Tri) : lTri t = num t.1 ++ sp ++ t.2.1 ++ sp ++ num t.2.2 := by rw [lTri_eq]; simp only [app_assoc]
theorem lstr_map {α : Type} (f : α → Str) (l : List α) : l.map (fun a => T.sh (.str (f a))) = (l.map f).map fun x => T.sh (.str x) := by simp
theorem triple_lines_ok {l : List Tri} (hl : l.length ≤ 1000) (h : ∀ t ∈ l, GTri t) : fn_triple_lines [.lst (l.map dTri)] = some (.ok (.lst ((l.map lTri).map fun x => T.sh (.str x)))) := by
  have e := compL_as (ρ := [some (.sh (.lst (l.map dTri))), none, none, none]) (tg := tgTup 3 [tgName 1, tgName 2, tgName 3]) (f := le_triple_lines_1) (as := l) (mk := dTri) (g := fun a => T.sh (.str (lTri a))) (fun a ha => ⟨[some (.sh (.lst (l.map dTri))), some (.sh (.int a.1)), some (.sh (.str a.2.1)), some (.sh (.int a.2.2))], by simp [dTri], by
    have g := h a ha
    have h1 := num_len g.1
    have h2 := g.2.1.len
    have h3 := num_len g.2.2
    have f1 := fmtT_num g.1
    have f2 := fmtT_str (x := a.2.1) (by omega)
    have f3 := fmtT_num g.2.2
    have w := lTri_len g
    have s0 : Str.empty ++ num a.1 = num a.1 := empty_app _
    have z1 : (num a.1).length ≤ sizeLine := nm_le (by omega)
    have z2 : (num a.1 ++ sp).length ≤ sizeLine := nm_le (by simp only [app_len, sp_len]; omega)
    have z3 : (num a.1 ++ sp ++ a.2.1).length ≤ sizeLine := nm_le (by simp only [app_len, sp_len]; omega)
    have z4 : (num a.1 ++ sp ++ a.2.1 ++ sp).length ≤ sizeLine := nm_le (by simp only [app_len, sp_len]; omega)
    have z5 : (num a.1 ++ sp ++ a.2.1 ++ sp ++ num a.2.2).length ≤ sizeLine := nm_le (by simp only [app_len, sp_len]; omega)
    simp [le_triple_lines_1, f1, f2, f3, s0, z1, z2, z3, z4, z5, lTri_eq2]⟩)
  have hz : l.length < sizeLine := nm_lt (by omega)
  simp [fn_triple_lines, fb_triple_lines, fnF_ap, compZ, e, hz]
theorem pair_lines_ok {l : List Pr} (hl : l.length ≤ 1000) (h : ∀ t ∈ l, GPr t) : fn_pair_lines [.lst (l.map dPr)] = some (.ok (.lst ((l.map lPr).map fun x => T.sh (.str x)))) := by
  have e := compL_as (ρ := [some (.sh (.lst (l.map dPr))), none, none]) (tg := tgTup 2 [tgName 1, tgName 2]) (f := le_pair_lines_1) (as := l) (mk := dPr) (g := fun a => T.sh (.str (lPr a))) (fun a ha => ⟨[some (.sh (.lst (l.map dPr))), some (.sh (.str a.1)), some (.sh (.int a.2))], by simp [dPr], by
    have g := h a ha
    have h2 := g.1.len
    have h3 := num_len g.2
    have f2 := fmtT_str (x := a.1) (by omega)
    have f3 := fmtT_num g.2
    have s0 : Str.empty ++ a.1 = a.1 := empty_app _
    have z1 : (a.1).length ≤ sizeLine := nm_le (by omega)
    have z2 : (a.1 ++ sp).length ≤ sizeLine := nm_le (by simp only [app_len, sp_len]; omega)
    have z3 : (a.1 ++ sp ++ num a.2).length ≤ sizeLine := nm_le (by simp only [app_len, sp_len]; omega)
    simp [le_pair_lines_1, f2, f3, s0, z1, z2, z3, lPr_eq]⟩)
  have hz : l.length < sizeLine := nm_lt (by omega)
  simp [fn_pair_lines, fb_pair_lines, fnF_ap, compZ, e, hz]
theorem fits_ns {l : List Str} {n : Nat} (f : Str) (hf : f.length ≤ 12) (hn : l.length ≤ n) (h : ∀ x ∈ l, GName x) : Fits f n l := ⟨hf, hn, fun x hx => (h x hx).len.2⟩
theorem fits_is {l : List Int} {n : Nat} (f : Str) (hf : f.length ≤ 12) (hn : l.length ≤ n) (h : ∀ x ∈ l, GNum x) : Fits f n (l.map num) := ⟨hf, by simpa using hn, fun x hx => by
  obtain ⟨i, hi, rfl⟩ := List.mem_map.mp hx
  have := num_len (h i hi)
  omega⟩
theorem tr_len : (Str.ofString "troubles").length ≤ 12 := by decide +kernel
theorem pe_len : (Str.ofString "people").length ≤ 12 := by decide +kernel
theorem ca_len : (Str.ofString "carried").length ≤ 12 := by decide +kernel
theorem item_ns {l : List Str} (f : Str) (hf : f.length ≤ 12) (hn : l.length ≤ 500) (h : ∀ x ∈ l, GName x) : fn_item_line [.str f, .tup (l.map D.str)] = some (.ok (.sh (.str (Str.join sp (f :: l))))) :=
  item_line_ok (n := 500) (by decide) (fits_ns f hf hn h) (as := l) (mk := D.str) (sv := id) rfl (by simp) fun a _ => rfl
theorem item_is {l : List Int} (f : Str) (hf : f.length ≤ 12) (hn : l.length ≤ 500) (h : ∀ x ∈ l, GNum x) : fn_item_line [.str f, .tup (l.map D.int)] = some (.ok (.sh (.str (Str.join sp (f :: l.map num))))) :=
  item_line_ok (n := 500) (by decide) (fits_is f hf hn h) (as := l) (mk := D.int) (sv := num) rfl rfl fun a ha => strD_num (h a ha)
theorem entry_lines_ok {e : Ent} (h : GEnt e) : ∃ t, fn_entry_lines [dEnt e] = some (.ok t) ∧ t.d = .lst ((lEnt e).map D.str) := by
  have a1 := item_ns (f := "troubles") tr_len (by have := h.l1; omega) h.ns
  have a2 := item_is (f := "people") pe_len h.l2 h.row
  have a3 := item_is (f := "carried") ca_len h.l3 h.car
  have a4 := triple_lines_ok (l := e.mv) (by have := h.l4; omega) h.mv
  have ad : addT (.sh (.lst [.str (lNs e.ns), .str (lRow e.row), .str (lCar e.car)])) (.sh (.lst ((e.mv.map lTri).map D.str))) = some (lstS ((lEnt e).map D.str)) :=
    addT_lst (viewL_sh _) (viewL_sh _) (nm_le (by have := h.l4; simp; omega))
  refine ⟨lstS ((lEnt e).map D.str), ?_, lstS_d _⟩
  simp only [lNs, lRow, lCar] at ad
  have dd : T.dl ((e.mv.map lTri).map fun x => T.sh (.str x)) = (e.mv.map lTri).map D.str := by
    have := dl_comp D.str (e.mv.map lTri)
    exact this
  simp only [List.map_map] at ad dd
  simp [fn_entry_lines, fb_entry_lines, fnF_ap, dEnt, a1, a2, a3, a4, lstT_of, dd, ad]
end K48
end DV

namespace DV
open PySem PySem.Spec PyProof.Rows L2
namespace K48
theorem wt_map {α : Type} {f : α → Str} {k n : Nat} {l : List α} (h : ∀ x ∈ l, (f x).length ≤ k) (hn : l.length ≤ n) : wt (l.map f) ≤ n * (k + 1) :=
  wt_le (fun x hx => by obtain ⟨a, ha, rfl⟩ := List.mem_map.mp hx; exact h a ha) (by simpa using hn)
theorem line_len {f : Str} {n : Nat} {l : List Str} (h : Fits f n l) : (Str.join sp (f :: l)).length ≤ (n + 1) * 13 := Nat.le_trans (join_wt 32 _) h.wt
theorem lNs_len {l : List Str} {n : Nat} (hn : l.length ≤ n) (h : ∀ x ∈ l, GName x) : (lNs l).length ≤ (n + 1) * 13 := line_len (fits_ns "troubles" tr_len hn h)
theorem lRow_len {l : List Int} {n : Nat} (hn : l.length ≤ n) (h : ∀ x ∈ l, GNum x) : (lRow l).length ≤ (n + 1) * 13 := line_len (fits_is "people" pe_len hn h)
theorem lCar_len {l : List Int} {n : Nat} (hn : l.length ≤ n) (h : ∀ x ∈ l, GNum x) : (lCar l).length ≤ (n + 1) * 13 := line_len (fits_is "carried" ca_len hn h)
theorem lEnt_wt {e : Ent} (h : GEnt e) : wt (lEnt e) ≤ 20000 := by
  have h1 := lNs_len h.l1 h.ns
  have h2 := lRow_len h.l2 h.row
  have h3 := lCar_len h.l3 h.car
  have h4 := wt_map (f := lTri) (fun x hx => lTri_len (h.mv x hx)) h.l4
  unfold lEnt
  rw [wt_cons, wt_cons, wt_cons]
  omega
theorem lines_wt {p : Pap} (h : GPap p) : wt (lines p) ≤ 10100000 := by
  have w1 : (Str.ofString "movement").length ≤ 12 := by decide +kernel
  have w2 : (Str.ofString "cut").length ≤ 12 := by decide +kernel
  have w3 : (Str.ofString "course").length ≤ 12 := by decide +kernel
  have w4 : (Str.ofString "cover").length ≤ 12 := by decide +kernel
  cases p with
  | mv l =>
    have h4 := wt_map (f := lTri) (fun x hx => lTri_len (h.2 x hx)) h.1
    unfold lines
    rw [wt_cons]
    omega
  | ct l =>
    have h4 := wt_map (f := lPr) (fun x hx => lPr_len (h.2 x hx)) h.1
    unfold lines
    rw [wt_cons]
    omega
  | cs ns row l =>
    have h1 := lNs_len h.1.1 h.1.2
    have h2 := lRow_len h.2.1.1 h.2.1.2
    have h4 := wt_map (f := lPr) (fun x hx => lPr_len (h.2.2.2 x hx)) h.2.2.1
    unfold lines
    rw [wt_cons, wt_cons, wt_cons]
    omega
  | cv l =>
    have h4 := wt_flat (f := lEnt) (fun x hx => lEnt_wt (h.2 x hx)) h.1
    unfold lines
    rw [wt_cons]
    omega
theorem join_nl {t : T} {p : Pap} (ht : t.d = .lst ((lines p).map D.str)) (h : GPap p) : joinT nl t = some (.sh (.str (Str.join nl (lines p)))) := joinT_ok ht (by have := lines_wt h; omega)
def S (l : List Str) : T := .lst ((l.map D.str).map T.sh)
@[simp] theorem S_d (l : List Str) : (S l).d = .lst (l.map D.str) := by simp [S]
theorem flat_len {l : List Ent} (h : ∀ x ∈ l, GEnt x) : wt (l.flatMap lEnt) ≤ l.length * 20000 := wt_flat (fun x hx => lEnt_wt (h x hx)) (Nat.le_refl _)
theorem write_loop (p k : D) : ∀ (es : List Ent) (done : List Str) (x : Option T), (∀ e ∈ es, GEnt e) → wt done + es.length * 20000 ≤ 16000000 →
    ∃ x', forF (tgName 3) lb_write_paper_1 ((es.map dEnt).map T.sh) [some (.sh p), some (.sh k), some (S done), x] = some (.nx [some (.sh p), some (.sh k), some (S (done ++ es.flatMap lEnt)), x'])
  | [], done, x, _, _ => ⟨x, by simp [forF]⟩
  | e :: es, done, x, h, hw => by
    obtain ⟨t, e1, e2⟩ := entry_lines_ok (h e (by simp))
    have w1 := lEnt_wt (h e (by simp))
    rw [List.length_cons, Nat.succ_mul] at hw
    obtain ⟨x', e3⟩ := write_loop p k es (done ++ lEnt e) (some (.sh (dEnt e))) (fun a ha => h a (List.mem_cons_of_mem _ ha)) (by rw [wt_append]; omega)
    refine ⟨x', ?_⟩
    have z : done.length + (lEnt e).length ≤ sizeLine := by
      have a1 := len_le_wt done
      have a2 := len_le_wt (lEnt e)
      rw [sizeLine_eq]
      omega
    rw [List.flatMap_cons, ← List.append_assoc, ← e3]
    simp [forF, lb_write_paper_1, e1, e2, S, z]
theorem write_ok {p : Pap} (h : GPap p) : fn_write_paper [dPap p] = some (.ok (.sh (.str (Str.join nl (lines p))))) := by
  have dd : ∀ l : List Str, T.dl (l.map fun x => T.sh (.str x)) = l.map D.str := fun l => dl_comp D.str l
  cases p with
  | mv l =>
    have a := triple_lines_ok (l := l) (by have := h.1; omega) h.2
    have z : 1 + l.length ≤ sizeLine := nm_le (by have := h.1; omega)
    have j := join_nl (p := .mv l) (t := S (lines (.mv l))) (S_d _) h
    simp only [lines, S, List.map_cons, List.map_map] at j a
    have dd' := dd (l.map lTri)
    simp only [List.map_map] at dd'
    simp [fn_write_paper, fb_write_paper, fnF_ap, dPap, a, lstT_of, dd', z, lines, j]
  | ct l =>
    have a := pair_lines_ok (l := l) (by have := h.1; omega) h.2
    have z : 1 + l.length ≤ sizeLine := nm_le (by have := h.1; omega)
    have j := join_nl (p := .ct l) (t := S (lines (.ct l))) (S_d _) h
    simp only [lines, S, List.map_cons, List.map_map] at j a
    have dd' := dd (l.map lPr)
    simp only [List.map_map] at dd'
    simp [fn_write_paper, fb_write_paper, fnF_ap, dPap, a, lstT_of, dd', z, lines, j]
  | cs ns row l =>
    have a := pair_lines_ok (l := l) (by have := h.2.2.1; omega) h.2.2.2
    have a1 := item_ns (f := "troubles") tr_len h.1.1 h.1.2
    have a2 := item_is (f := "people") pe_len h.2.1.1 h.2.1.2
    have z : 1 + 1 + 1 + l.length ≤ sizeLine := nm_le (by have := h.2.2.1; omega)
    have z1 : 1 < sizeLine := nm_lt (by decide)
    have z2 : 1 + 1 < sizeLine := nm_lt (by decide)
    have j := join_nl (p := .cs ns row l) (t := S (lines (.cs ns row l))) (S_d _) h
    simp only [lines, S, List.map_cons, List.map_map, lNs, lRow] at j a
    have dd' := dd (l.map lPr)
    simp only [List.map_map] at dd'
    simp [fn_write_paper, fb_write_paper, fnF_ap, dPap, a, a1, a2, lstT_of, dd', z, z1, z2, lines, lNs, lRow, j]
  | cv l =>
    have w1 : wt [Str.ofString "cover"] ≤ 100 := by decide +kernel
    obtain ⟨x', e⟩ := write_loop (dPap (.cv l)) (.str "cover") l ["cover"] none h.2 (by
      have : l.length * 20000 ≤ 500 * 20000 := Nat.mul_le_mul_right _ h.1
      omega)
    have j := join_nl (p := .cv l) (t := S (lines (.cv l))) (S_d _) h
    simp only [lines, S, List.map_cons, List.map_map, List.map_nil, List.singleton_append, dPap] at j e
    simp [fn_write_paper, fb_write_paper, fnF_ap, dPap, lstT_of, e, lines, j]
end K48
end DV

namespace DV
open PySem PySem.Spec PyProof.Rows L2
@[simp] theorem cutD_one {α : Type} (a : α) (l : List α) : cutD (a :: l) (some 1) none = l := by
  have e1 : HT.sIx (a :: l).length 0 (some 1) = 1 := by unfold HT.sIx; simp
  have e2 : HT.sIx (a :: l).length (a :: l).length none = (a :: l).length := by unfold HT.sIx; simp
  unfold cutD
  rw [e1, e2]
  simp
namespace K48
theorem law_loop (a b : Option T) {α : Type} {mk : α → D} {sv : α → Str} : ∀ (as : List α) (done : List Str) (x : Option T), done ≠ [] → (∀ a ∈ as, strD [mk a] = some (.str (sv a)) ∧ (sv a).length ≤ 12) → wt done + as.length * 13 ≤ 1000000 →
    ∃ x', forF (tgName 3) lb__law_line_1 ((as.map mk).map T.sh) [a, b, some (.sh (.str (Str.join sp done))), x] = some (.nx [a, b, some (.sh (.str (Str.join sp (done ++ as.map sv)))), x'])
  | [], done, x, _, _, _ => ⟨x, by simp [forF]⟩
  | c :: as, done, x, hn, h, hw => by
    obtain ⟨s1, s2⟩ := h c (by simp)
    rw [List.length_cons, Nat.succ_mul] at hw
    obtain ⟨x', e3⟩ := law_loop a b as (done ++ [sv c]) (some (.sh (mk c))) (by simp) (fun a ha => h a (List.mem_cons_of_mem _ ha)) (by rw [wt_append, wt_cons, wt_nil]; omega)
    refine ⟨x', ?_⟩
    have w := join_wt 32 done
    have w' : (Str.join sp done).length ≤ wt done := w
    have ad1 : addT (.sh (.str (Str.join sp done))) (.sh (.str sp)) = some (.sh (.str (Str.join sp done ++ sp))) := addT_str _ _ (nm_le (by rw [sp_len]; omega))
    have ad2 : addT (.sh (.str (Str.join sp done ++ sp))) (.sh (.str (sv c))) = some (.sh (.str (Str.join sp done ++ sp ++ sv c))) := addT_str _ _ (nm_le (by rw [app_len, sp_len]; omega))
    have ej := join_snoc sp (sv c) hn
    rw [ej] at e3
    rw [List.map_cons, List.map_cons, List.map_cons]
    have e4 : done ++ sv c :: as.map sv = done ++ [sv c] ++ as.map sv := by simp
    rw [e4, ← e3]
    simp [forF, lb__law_line_1, s1, ad1, ad2]
theorem law_line_ok {f : Str} {α : Type} {as : List α} {mk : α → D} {sv : α → Str} (hf : f.length ≤ 12) (hn : as.length ≤ 1000) (h : ∀ a ∈ as, strD [mk a] = some (.str (sv a)) ∧ (sv a).length ≤ 12) :
    fn__law_line [.str f, .tup (as.map mk)] = some (.ok (.sh (.str (Str.join sp (f :: as.map sv))))) := by
  obtain ⟨x', e⟩ := law_loop (some (.sh (.str f))) (some (.sh (.tup (as.map mk)))) (mk := mk) (sv := sv) as [f] none (by simp) h (by rw [wt_cons, wt_nil]; omega)
  have ej : Str.join sp [f] = f := rfl
  rw [ej] at e
  simp only [List.singleton_append, List.map_map] at e
  simp [fn__law_line, fb__law_line, fnF_ap, e]
theorem ll_ns {l : List Str} (f : Str) (hf : f.length ≤ 12) (hn : l.length ≤ 500) (h : ∀ x ∈ l, GName x) : fn__law_line [.str f, .tup (l.map D.str)] = some (.ok (.sh (.str (Str.join sp (f :: l))))) := by
  have := law_line_ok (f := f) (as := l) (mk := D.str) (sv := id) hf (by omega) fun a ha => ⟨rfl, (h a ha).len.2⟩
  rwa [List.map_id] at this
theorem ll_is {l : List Int} (f : Str) (hf : f.length ≤ 12) (hn : l.length ≤ 500) (h : ∀ x ∈ l, GNum x) : fn__law_line [.str f, .tup (l.map D.int)] = some (.ok (.sh (.str (Str.join sp (f :: l.map num))))) :=
  law_line_ok (f := f) (as := l) (mk := D.int) (sv := num) hf (by omega) fun a ha => ⟨strD_num (h a ha), by have := num_len (h a ha); omega⟩
theorem ll_tri {t : Tri} (h : GTri t) : fn__law_line [.str (num t.1), .tup [.str t.2.1, .int t.2.2]] = some (.ok (.sh (.str (lTri t)))) :=
  law_line_ok (f := num t.1) (as := [(D.str t.2.1, t.2.1), (D.int t.2.2, num t.2.2)]) (mk := Prod.fst) (sv := Prod.snd) (by have := num_len h.1; omega) (by simp) fun a ha => by
    simp only [List.mem_cons, List.mem_nil_iff, or_false] at ha
    rcases ha with rfl | rfl
    · exact ⟨rfl, h.2.1.len.2⟩
    · exact ⟨strD_num h.2.2, by have := num_len h.2.2; simp only; omega⟩
theorem ll_pr {t : Pr} (h : GPr t) : fn__law_line [.str t.1, .tup [.int t.2]] = some (.ok (.sh (.str (lPr t)))) :=
  law_line_ok (f := t.1) (as := [(D.int t.2, num t.2)]) (mk := Prod.fst) (sv := Prod.snd) h.1.len.2 (by simp) fun a ha => by
    simp only [List.mem_cons, List.mem_nil_iff, or_false] at ha
    subst ha
    exact ⟨strD_num h.2, by have := num_len h.2; simp only; omega⟩
/-- the walk over rows -/
theorem text3_tri (p : D) (b c : Option T) : ∀ (l : List Tri) (done : List Str) (x : Option T), (∀ t ∈ l, GTri t) → done.length + l.length ≤ 1000000 →
    ∃ x', forF (tgName 3) lb__law_text_3 ((l.map dTri).map T.sh) [some (.sh p), some (S done), b, x, c] = some (.nx [some (.sh p), some (S (done ++ l.map lTri)), b, x', c])
  | [], done, x, _, _ => ⟨x, by simp [forF]⟩
  | t :: l, done, x, h, hw => by
    have g := h t (by simp)
    have e1 := ll_tri g
    have s1 := strD_num g.1
    rw [List.length_cons] at hw
    obtain ⟨x', e3⟩ := text3_tri p b c l (done ++ [lTri t]) (some (.sh (dTri t))) (fun a ha => h a (List.mem_cons_of_mem _ ha)) (by simp; omega)
    refine ⟨x', ?_⟩
    have z : done.length < sizeLine := nm_lt (by omega)
    rw [List.map_cons, List.map_cons, List.map_cons, List.append_cons, ← e3]
    simp [forF, lb__law_text_3, dTri, s1, cutTT, shTup, e1, S, z]
theorem text3_pr (p : D) (b c : Option T) : ∀ (l : List Pr) (done : List Str) (x : Option T), (∀ t ∈ l, GPr t) → done.length + l.length ≤ 1000000 →
    ∃ x', forF (tgName 3) lb__law_text_3 ((l.map dPr).map T.sh) [some (.sh p), some (S done), b, x, c] = some (.nx [some (.sh p), some (S (done ++ l.map lPr)), b, x', c])
  | [], done, x, _, _ => ⟨x, by simp [forF]⟩
  | t :: l, done, x, h, hw => by
    have g := h t (by simp)
    have e1 := ll_pr g
    rw [List.length_cons] at hw
    obtain ⟨x', e3⟩ := text3_pr p b c l (done ++ [lPr t]) (some (.sh (dPr t))) (fun a ha => h a (List.mem_cons_of_mem _ ha)) (by simp; omega)
    refine ⟨x', ?_⟩
    have z : done.length < sizeLine := nm_lt (by omega)
    rw [List.map_cons, List.map_cons, List.map_cons, List.append_cons, ← e3]
    simp [forF, lb__law_text_3, dPr, cutTT, shTup, e1, S, z]
theorem text1 (p : D) (b c : Option T) : ∀ (l : List Tri) (done : List Str) (x : Option T), (∀ t ∈ l, GTri t) → done.length + l.length ≤ 1000000 →
    ∃ x', forF (tgName 4) lb__law_text_1 ((l.map dTri).map T.sh) [some (.sh p), some (S done), b, c, x] = some (.nx [some (.sh p), some (S (done ++ l.map lTri)), b, c, x'])
  | [], done, x, _, _ => ⟨x, by simp [forF]⟩
  | t :: l, done, x, h, hw => by
    have g := h t (by simp)
    rw [List.length_cons] at hw
    obtain ⟨x', e3⟩ := text1 p b c l (done ++ [lTri t]) (some (.sh (dTri t))) (fun a ha => h a (List.mem_cons_of_mem _ ha)) (by simp; omega)
    refine ⟨x', ?_⟩
    have z : done.length < sizeLine := nm_lt (by omega)
    have h1 := num_len g.1
    have h2 := g.2.1.len
    have h3 := num_len g.2.2
    have f1 := fmtT_num g.1
    have f2 := fmtT_str (x := t.2.1) (by omega)
    have f3 := fmtT_num g.2.2
    have s0 : Str.empty ++ num t.1 = num t.1 := empty_app _
    have z1 : (num t.1).length ≤ sizeLine := nm_le (by omega)
    have z2 : (num t.1 ++ sp).length ≤ sizeLine := nm_le (by simp only [app_len, sp_len]; omega)
    have z3 : (num t.1 ++ sp ++ t.2.1).length ≤ sizeLine := nm_le (by simp only [app_len, sp_len]; omega)
    have z4 : (num t.1 ++ sp ++ t.2.1 ++ sp).length ≤ sizeLine := nm_le (by simp only [app_len, sp_len]; omega)
    have z5 : (num t.1 ++ sp ++ t.2.1 ++ sp ++ num t.2.2).length ≤ sizeLine := nm_le (by simp only [app_len, sp_len]; omega)
    rw [List.map_cons, List.map_cons, List.map_cons, List.append_cons, ← e3]
    simp [forF, lb__law_text_1, dTri, f1, f2, f3, s0, z1, z2, z3, z4, z5, lTri_eq2, S, z]
theorem text2 (p : D) (c : Option T) : ∀ (es : List Ent) (done : List Str) (x y : Option T), (∀ e ∈ es, GEnt e) → done.length + es.length * 103 ≤ 1000000 →
    ∃ x' y', forF (tgName 2) lb__law_text_2 ((es.map dEnt).map T.sh) [some (.sh p), some (S done), x, c, y] = some (.nx [some (.sh p), some (S (done ++ es.flatMap lEnt)), x', c, y'])
  | [], done, x, y, _, _ => ⟨x, y, by simp [forF]⟩
  | e :: es, done, x, y, h, hw => by
    have g := h e (by simp)
    rw [List.length_cons, Nat.succ_mul] at hw
    have l4 := g.l4
    obtain ⟨y1, e1⟩ := text1 p (some (.sh (dEnt e))) c e.mv (done ++ [lNs e.ns, lRow e.row, lCar e.car]) y g.mv (by simp; omega)
    obtain ⟨x', y', e3⟩ := text2 p c es (done ++ lEnt e) (some (.sh (dEnt e))) y1 (fun a ha => h a (List.mem_cons_of_mem _ ha)) (by simp [lEnt]; omega)
    refine ⟨x', y', ?_⟩
    have a1 := ll_ns (f := "troubles") tr_len (by have := g.l1; omega) g.ns
    have a2 := ll_is (f := "people") pe_len g.l2 g.row
    have a3 := ll_is (f := "carried") ca_len g.l3 g.car
    have z1 : done.length < sizeLine := nm_lt (by omega)
    have z2 : done.length + 1 < sizeLine := nm_lt (by omega)
    have z3 : done.length + 1 + 1 < sizeLine := nm_lt (by omega)
    have el : done ++ lEnt e = done ++ [lNs e.ns, lRow e.row, lCar e.car] ++ e.mv.map lTri := by simp [lEnt]
    rw [List.map_cons, List.map_cons, List.flatMap_cons, ← List.append_assoc, ← e3]
    rw [el]
    simp only [S, lNs, lRow, lCar, List.map_append, List.map_cons, List.map_nil, dEnt, List.map_map] at e1 ⊢
    simp [forF, lb__law_text_2, a1, a2, a3, z1, z2, z3, e1]
theorem text_ok {p : Pap} (h : GPap p) : fn__law_text [dPap p] = some (.ok (.sh (.str (Str.join nl (lines p))))) := by
  cases p with
  | mv l =>
    have j := join_nl (p := .mv l) (t := S (lines (.mv l))) (S_d _) h
    obtain ⟨x', e⟩ := text3_tri (dPap (.mv l)) none none l ["movement"] none h.2 (by have := h.1; simp; omega)
    simp only [lines, S, List.map_cons, List.map_map, dPap, List.map_nil, List.singleton_append] at j e
    simp [fn__law_text, fb__law_text, fnF_ap, dPap, lstT_of, lines, e, j]
  | ct l =>
    have j := join_nl (p := .ct l) (t := S (lines (.ct l))) (S_d _) h
    obtain ⟨x', e⟩ := text3_pr (dPap (.ct l)) none none l ["cut"] none h.2 (by have := h.1; simp; omega)
    simp only [lines, S, List.map_cons, List.map_map, dPap, List.map_nil, List.singleton_append] at j e
    simp [fn__law_text, fb__law_text, fnF_ap, dPap, lstT_of, lines, e, j]
  | cs ns row l =>
    have j := join_nl (p := .cs ns row l) (t := S (lines (.cs ns row l))) (S_d _) h
    have a1 := ll_ns (f := "troubles") tr_len h.1.1 h.1.2
    have a2 := ll_is (f := "people") pe_len h.2.1.1 h.2.1.2
    obtain ⟨x', e⟩ := text3_pr (dPap (.cs ns row l)) none none l ["course", lNs ns, lRow row] none h.2.2.2 (by have := h.2.2.1; simp; omega)
    have z1 : 1 < sizeLine := nm_lt (by decide)
    have z2 : 1 + 1 < sizeLine := nm_lt (by decide)
    simp only [lines, S, List.map_cons, List.map_map, dPap, List.map_nil, List.cons_append, List.nil_append, lNs, lRow] at j e
    simp [fn__law_text, fb__law_text, fnF_ap, dPap, lstT_of, lines, lNs, lRow, a1, a2, z1, z2, e, j]
  | cv l =>
    have j := join_nl (p := .cv l) (t := S (lines (.cv l))) (S_d _) h
    obtain ⟨x', y', e⟩ := text2 (dPap (.cv l)) none l ["cover"] none none h.2 (by
      have : l.length * 103 ≤ 500 * 103 := Nat.mul_le_mul_right _ h.1
      simp
      omega)
    simp only [lines, S, List.map_cons, List.map_map, dPap, List.map_nil, List.singleton_append] at j e
    simp [fn__law_text, fb__law_text, fnF_ap, dPap, lstT_of, lines, e, j]
end K48
end DV

namespace DV
open PySem PySem.Spec PyProof.Rows L2
@[simp] theorem inD_sgn (c : Nat) (z : Str) : inD (.str (sgn c)) (.str z) = some (.bl (decide (c ∈ z.cps.toList))) := rfl
@[simp] theorem notinD_sgn (c : Nat) (z : Str) : notinD (.str (sgn c)) (.str z) = some (.bl (!decide (c ∈ z.cps.toList))) := rfl
theorem ixT_str0 {x : Str} {c : Nat} {r : List Nat} (hx : x.length ≤ sizeLine) (e : x.cps.toList = c :: r) : ixT (.sh (.str x)) (.sh (.int 0)) = some (.sh (.str (sgn c))) := by
  rw [ixT_str hx (by omega) (by rw [len_cps, e]; simp)]
  simp [sg, e]
@[simp] theorem ixT_lstS0 (a : D) (l : List D) : ixT (lstS (a :: l)) (.sh (.int 0)) = some (.sh a) := by
  rw [ix_items (ts := (a :: l).map T.sh) (by simp [lstS]) rfl (by omega) (by simp)]
  rfl
theorem splitT_ok {a : Str} {c : Nat} (h : a.length ≤ 16000000) : splitT a (.sh (.str (sgn c))) = some (lstS ((Txt.split a (sgn c)).map D.str)) := by
  have : (((sgn c).length == 0) = false ∧ a.length + 2 ≤ sizeLine) := ⟨rfl, by rw [sizeLine_eq]; omega⟩
  simp only [splitT, strT_str, Option.bind_some, if_pos this]
namespace K48
theorem let_in (c : Nat) : decide (c ∈ (Str.ofString "abcdefghijklmnopqrstuvwxyz").cps.toList) = isLet c := by
  have e : (Str.ofString "abcdefghijklmnopqrstuvwxyz").cps.toList = (List.range 26).map (· + 97) := by rw [ofS_cps]; decide
  rw [e]
  unfold isLet
  rw [decide_eq_decide]
  simp only [List.mem_map, List.mem_range]
  constructor
  · rintro ⟨a, h, rfl⟩; omega
  · intro h; exact ⟨c - 97, by omega, by omega⟩
theorem sgn_in (c : Nat) : decide (c ∈ (Str.ofString "abcdefghijklmnopqrstuvwxyz0123456789").cps.toList) = isSgn c := by
  have e := L36_cps
  unfold L36 at e
  rw [e]
  unfold isSgn
  rw [← Bool.decide_or, decide_eq_decide]
  simp only [List.mem_append, List.mem_map, List.mem_range]
  constructor
  · rintro (⟨a, h, rfl⟩ | ⟨a, h, rfl⟩) <;> omega
  · rintro (h | h)
    · exact .inl ⟨c - 97, by omega, by omega⟩
    · exact .inr ⟨c - 48, by omega, by omega⟩
theorem dig_in (c : Nat) : decide (c ∈ (Str.ofString "0123456789").cps.toList) = decide (48 ≤ c ∧ c ≤ 57) := by
  have e : (Str.ofString "0123456789").cps.toList = (List.range 10).map (· + 48) := by rw [ofS_cps]; decide
  rw [e, decide_eq_decide]
  simp only [List.mem_map, List.mem_range]
  constructor
  · rintro ⟨a, h, rfl⟩; omega
  · intro h; exact ⟨c - 48, by omega, by omega⟩
theorem name_loop (a : Option T) : ∀ (l : List Nat) (x : Option T), (∀ c ∈ l, isSgn c = true) → ∃ x', forF (tgName 1) lb_is_name_1 (l.map fun c => T.sh (.str ⟨#[c]⟩)) [a, x] = some (.nx [a, x'])
  | [], x, _ => ⟨x, rfl⟩
  | c :: l, x, h => by
    obtain ⟨x', e⟩ := name_loop a l (some (.sh (.str (sgn c)))) fun s hs => h s (List.mem_cons_of_mem _ hs)
    refine ⟨x', ?_⟩
    have h1 := h c (by simp)
    have h2 := sgn_in c
    have h3 : notinD (.str ⟨#[c]⟩) (.str (Str.ofString "abcdefghijklmnopqrstuvwxyz0123456789")) = some (.bl false) := by
      show some (D.bl (!decide (c ∈ (Str.ofString "abcdefghijklmnopqrstuvwxyz0123456789").cps.toList))) = _
      rw [h2, h1]
      rfl
    have e' : forF (tgName 1) lb_is_name_1 (l.map fun c => T.sh (.str ⟨#[c]⟩)) [a, some (.sh (.str ⟨#[c]⟩))] = some (.nx [a, x']) := e
    rw [← e']
    simp [forF, lb_is_name_1, h3]
theorem is_name_ok {x : Str} (h : GName x) : fn_is_name [.str x] = some (.ok (.sh (.bl true))) := by
  have hl := h.len
  have hs := h.signs
  obtain ⟨c, r, e, hc, _, _⟩ := h
  have z : x.length ≤ sizeLine := nm_le (by omega)
  have i0 := ixT_str0 z e
  have li := let_in c
  rw [hc] at li
  obtain ⟨x', el⟩ := name_loop (some (.sh (.str x))) x.cps.toList none hs
  have l1 : ¬ ((x.length : Int) < 1) := by omega
  have l2 : ¬ ((12 : Int) < (x.length : Int)) := by omega
  simp only [decide_eq_true_eq] at li
  have l0 : x.length ≠ 0 := by omega
  have n3 : notinD (.str (sgn c)) (.str (Str.ofString "abcdefghijklmnopqrstuvwxyz")) = some (.bl false) := by
    rw [notinD_sgn, let_in, hc]
    rfl
  simp [fn_is_name, fb_is_name, fnF_ap, z, l1, l2, i0, n3, -notinD_sgn]
  rw [el]
  rfl
theorem num_loop (a : Option T) : ∀ (l : List Nat) (x : Option T), (∀ c ∈ l, 48 ≤ c ∧ c ≤ 57) → ∃ x', forF (tgName 1) lb_is_number_1 (l.map fun c => T.sh (.str ⟨#[c]⟩)) [a, x] = some (.nx [a, x'])
  | [], x, _ => ⟨x, rfl⟩
  | c :: l, x, h => by
    obtain ⟨x', e⟩ := num_loop a l (some (.sh (.str (sgn c)))) fun s hs => h s (List.mem_cons_of_mem _ hs)
    refine ⟨x', ?_⟩
    have h1 := h c (by simp)
    have h2 := dig_in c
    have h3 : notinD (.str ⟨#[c]⟩) (.str (Str.ofString "0123456789")) = some (.bl false) := by
      show some (D.bl (!decide (c ∈ (Str.ofString "0123456789").cps.toList))) = _
      rw [h2, decide_eq_true h1]
      rfl
    have e' : forF (tgName 1) lb_is_number_1 (l.map fun c => T.sh (.str ⟨#[c]⟩)) [a, some (.sh (.str ⟨#[c]⟩))] = some (.nx [a, x']) := e
    rw [← e']
    simp [forF, lb_is_number_1, h3]
theorem zero_eq : Str.ofString "0" = sgn 48 := str_ext (by rw [ofS_cps]; rfl)
theorem sgn_inj {a b : Nat} : sgn a = sgn b ↔ a = b := by simp [sgn]
theorem is_number_ok {n : Int} (h : GNum n) : fn_is_number [.str (num n)] = some (.ok (.sh (.bl true))) := by
  have hl := num_len h
  have hs := num_digits h.1
  have z : (num n).length ≤ sizeLine := nm_le (by omega)
  obtain ⟨x', el⟩ := num_loop (some (.sh (.str (num n)))) (num n).cps.toList none hs
  have l1 : ¬ (((num n).length : Int) < 1) := by omega
  have l2 : ¬ ((5 : Int) < ((num n).length : Int)) := by omega
  rcases num_head h.1 with e | ⟨c, r, e, hc⟩
  · rw [e] at z l1 l2 el ⊢
    simp [fn_is_number, fb_is_number, fnF_ap, z, l1, l2]
    rw [el]
    simp [zero_eq]
  · have i0 := ixT_str0 z e
    simp [fn_is_number, fb_is_number, fnF_ap, z, l1, l2]
    rw [el]
    by_cases hz : num n = sgn 48
    · simp [zero_eq, hz]
    · have : neD (.str (sgn c)) (.str (sgn 48)) = some (.bl true) := by simp [sgn_inj, hc]
      simp [zero_eq, hz, i0, this, -neD_str]
end K48
end DV

namespace DV
open PySem PySem.Spec PyProof.Rows L2
/-- line i of L is x -/
def At (L : List Str) (i : Int) (x : Str) : Prop := ixT (.sh (.lst (L.map D.str))) (.sh (.int i)) = some (.sh (.str x)) ∧ i < L.length
theorem at_of {L pre post : List Str} {x : Str} (e : L = pre ++ x :: post) : At L (pre.length : Int) x := by
  subst e
  refine ⟨?_, by simp; omega⟩
  rw [ixT_lstn (l := (pre ++ x :: post).map D.str) (n := pre.length) (by simp)]
  simp
theorem range_getD {α β : Type} [Inhabited α] (f : α → β) (l : List α) : (List.range l.length).map (fun i => f (l.getD i default)) = l.map f := by
  apply List.ext_getElem
  · simp
  · intro i h1 h2
    simp at h1
    simp [h1]
theorem compL_rng {g : Nat → T} {ρ : Env} {tg : T → FS} {f : FE} {lo hi : Int} {n : Nat} (hn : (hi - lo).toNat = n) (h : ∀ i : Nat, i < n → ∃ ρ1, tg (.sh (.int (lo + i))) ρ = some (.nx ρ1) ∧ f ρ1 = some (.ok (g i))) :
    compL tg yesB f ρ (rangeD lo hi) = some ((List.range n).map g) := by
  unfold rangeD
  rw [hn]
  exact compL_as (as := List.range n) (mk := fun i => D.int (lo + (i : Nat))) (g := g) fun a ha => h a (List.mem_range.mp ha)
namespace K48
instance : Inhabited Tri := ⟨(0, Str.empty, 0)⟩
instance : Inhabited Pr := ⟨(Str.empty, 0)⟩
theorem sp_split {l : List Str} (hn : l ≠ []) (h : ∀ x ∈ l, Free 32 x) : Txt.split (Str.join sp l) sp = l := split_join hn h
theorem words_ok {L : List Str} {i : Int} {f : Str} {ws : List Str} (ha : At L i (Str.join sp (f :: ws))) (hl : (Str.join sp (f :: ws)).length ≤ 1000000) (hf : ∀ x ∈ f :: ws, Free 32 x) :
    fn_words_behind [.lst (L.map D.str), .int i, .str f] = some (.ok (lstS (ws.map D.str))) := by
  obtain ⟨h1, h2⟩ := ha
  have s1 : splitT (Str.join sp (f :: ws)) (.sh (.str sp)) = some (lstS ((f :: ws).map D.str)) := by
    have := splitT_ok (a := Str.join sp (f :: ws)) (c := 32) (by omega)
    have e : Txt.split (Str.join sp (f :: ws)) (sgn 32) = f :: ws := sp_split (by simp) hf
    rw [e] at this
    exact this
  have h3 : ¬ ((L.length : Int) ≤ i) := by omega
  simp [fn_words_behind, fb_words_behind, fnF_ap, h1, h3, s1, cutTL_sh]
theorem ofS_free {s : String} {c : Nat} (h : ((s.toList.map Char.toNat).contains c) = false) : Free c (Str.ofString s) := by
  unfold Free
  rw [ofS_cps]
  intro z
  rw [List.contains_iff_mem.mpr z] at h
  cases h
theorem names_loop (a b c : Option T) : ∀ (l : List Str) (x : Option T), (∀ y ∈ l, GName y) → ∃ x', forF (tgName 3) lb_read_names_1 ((l.map D.str).map T.sh) [a, b, c, x] = some (.nx [a, b, c, x'])
  | [], x, _ => ⟨x, rfl⟩
  | y :: l, x, h => by
    obtain ⟨x', e⟩ := names_loop a b c l (some (.sh (.str y))) fun s hs => h s (List.mem_cons_of_mem _ hs)
    refine ⟨x', ?_⟩
    have h1 := is_name_ok (h y (by simp))
    rw [List.map_cons, List.map_cons, ← e]
    simp [forF, lb_read_names_1, h1]
theorem read_names_ok {L : List Str} {i : Int} {l : List Str} (ha : At L i (lNs l)) (hl : l.length ≤ 500) (h : ∀ x ∈ l, GName x) : fn_read_names [.lst (L.map D.str), .int i] = some (.ok (.sh (.tup (l.map D.str)))) := by
  have w := words_ok ha (by have := lNs_len hl h; unfold lNs at this; omega) (fun x hx => by
    rcases List.mem_cons.mp hx with rfl | hx
    · exact ofS_free (by decide)
    · exact (h x hx).free.2)
  obtain ⟨x', e⟩ := names_loop (some (.sh (.lst (L.map D.str)))) (some (.sh (.int i))) (some (.sh (.lst (l.map D.str)))) l none h
  simp only [List.map_map] at e
  have tt : tupleT [.sh (.lst (l.map D.str))] = some (.sh (.tup (l.map D.str))) := by simp [tupleT, shTup, viewS]
  simp [fn_read_names, fb_read_names, fnF_ap, w, e, tt]
theorem numbers_loop (a b c d : Option T) : ∀ (l : List Int) (x : Option T), (∀ y ∈ l, GNum y) → ∃ x', forF (tgName 4) lb_read_numbers_1 (((l.map num).map D.str).map T.sh) [a, b, c, d, x] = some (.nx [a, b, c, d, x'])
  | [], x, _ => ⟨x, rfl⟩
  | y :: l, x, h => by
    obtain ⟨x', e⟩ := numbers_loop a b c d l (some (.sh (.str (num y)))) fun s hs => h s (List.mem_cons_of_mem _ hs)
    refine ⟨x', ?_⟩
    have h1 := is_number_ok (h y (by simp))
    rw [List.map_cons, List.map_cons, List.map_cons, ← e]
    simp [forF, lb_read_numbers_1, h1]
theorem intD1_num {n : Int} (h : GNum n) : intD1 [.str (num n)] = some (.int n) := by
  have := num_len h
  rw [intD1_str, if_pos (by omega), num_reads h]
  rfl
theorem read_numbers_ok {L : List Str} {i : Int} {l : List Int} {f : Str} (ff : Free 32 f) (fl : f.length ≤ 12) (ha : At L i (Str.join sp (f :: l.map num))) (hl : l.length ≤ 500) (h : ∀ x ∈ l, GNum x) : fn_read_numbers [.lst (L.map D.str), .int i, .str f] = some (.ok (.sh (.tup (l.map D.int)))) := by
  have w := words_ok ha (by have := line_len (fits_is f fl hl h); omega) (fun x hx => by
    rcases List.mem_cons.mp hx with rfl | hx
    · exact ff
    · obtain ⟨n, hn, rfl⟩ := List.mem_map.mp hx
      exact (num_free (h n hn)).2)
  obtain ⟨x', e⟩ := numbers_loop (some (.sh (.lst (L.map D.str)))) (some (.sh (.int i))) (some (.sh (.str f))) (some (.sh (.lst ((l.map num).map D.str)))) l none h
  have cc := compL_as (ρ := [some (.sh (.lst (L.map D.str))), some (.sh (.int i)), some (.sh (.str f)), some (.sh (.lst ((l.map num).map D.str))), none]) (tg := tgName 4) (f := le_read_numbers_1) (as := l) (mk := fun n => D.str (num n)) (g := fun n => T.sh (.int n)) (fun a ha => ⟨_, rfl, by simp [le_read_numbers_1, intD1_num (h a ha)]⟩)
  have tt := tupleT_mk D.int l
  have z : l.length < sizeLine := nm_lt (by omega)
  simp only [List.map_map, Function.comp_def] at e cc w
  simp [fn_read_numbers, fb_read_numbers, fnF_ap, w, e, tt, compZ, cc, z, Function.comp_def]
theorem read_triple_ok {L : List Str} {i : Int} {t : Tri} (ha : At L i (lTri t)) (h : GTri t) : ∃ u, fn_read_triple [.lst (L.map D.str), .int i] = some (.ok u) ∧ u.d = dTri t := by
  obtain ⟨h1, h2⟩ := ha
  have s1 : splitT (lTri t) (.sh (.str sp)) = some (lstS [.str (num t.1), .str t.2.1, .str (num t.2.2)]) := by
    have := splitT_ok (a := lTri t) (c := 32) (by have := lTri_len h; omega)
    have e : Txt.split (lTri t) (sgn 32) = [num t.1, t.2.1, num t.2.2] := sp_split (by simp) (fun x hx => by
      simp only [List.mem_cons, List.mem_nil_iff, or_false] at hx
      rcases hx with rfl | rfl | rfl
      · exact (num_free h.1).2
      · exact h.2.1.free.2
      · exact (num_free h.2.2).2)
    rw [e] at this
    exact this
  refine ⟨.tup [.sh (.int t.1), .sh (.str t.2.1), .sh (.int t.2.2)], ?_, by simp [dTri]⟩
  simp [fn_read_triple, fb_read_triple, fnF_ap, h1, s1, is_number_ok h.1, is_name_ok h.2.1, is_number_ok h.2.2, intD1_num h.1, intD1_num h.2.2, tupT_of]
theorem read_pair_ok {L : List Str} {i : Int} {t : Pr} (ha : At L i (lPr t)) (h : GPr t) : ∃ u, fn_read_pair [.lst (L.map D.str), .int i] = some (.ok u) ∧ u.d = dPr t := by
  obtain ⟨h1, h2⟩ := ha
  have s1 : splitT (lPr t) (.sh (.str sp)) = some (lstS [.str t.1, .str (num t.2)]) := by
    have := splitT_ok (a := lPr t) (c := 32) (by have := lPr_len h; omega)
    have e : Txt.split (lPr t) (sgn 32) = [t.1, num t.2] := sp_split (by simp) (fun x hx => by
      simp only [List.mem_cons, List.mem_nil_iff, or_false] at hx
      rcases hx with rfl | rfl
      · exact h.1.free.2
      · exact (num_free h.2).2)
    rw [e] at this
    exact this
  refine ⟨.tup [.sh (.str t.1), .sh (.int t.2)], ?_, by simp [dPr]⟩
  simp [fn_read_pair, fb_read_pair, fnF_ap, h1, s1, is_number_ok h.2, is_name_ok h.1, intD1_num h.2, tupT_of]
end K48
end DV

namespace DV
open PySem PySem.Spec PyProof.Rows L2
namespace K48
/-- rows as they stand, frozen -/
def RT (l : List Tri) : T := .lst ((l.map dTri).map T.sh)
def RP (l : List Pr) : T := .lst ((l.map dPr).map T.sh)
def tEnt (e : Ent) : T := .tup [.sh (.tup (e.ns.map D.str)), .sh (.tup (e.row.map D.int)), .sh (.tup (e.car.map D.int)), RT e.mv]
@[simp] theorem RT_d (l : List Tri) : (RT l).d = .lst (l.map dTri) := by simp [RT]
@[simp] theorem RP_d (l : List Pr) : (RP l).d = .lst (l.map dPr) := by simp [RP]
theorem tEnt_d (e : Ent) : (tEnt e).d = dEnt e := by simp [tEnt, dEnt]
/-- where rows end -/
def Stop (post : List Str) : Prop := post = [] ∨ ∃ ws r, post = lNs ws :: r ∧ ws.length ≤ 500 ∧ ∀ x ∈ ws, GName x
theorem troubles_free : Free 32 (Str.ofString "troubles") := ofS_free (by decide)
theorem people_free : Free 32 (Str.ofString "people") := ofS_free (by decide)
theorem carried_free : Free 32 (Str.ofString "carried") := ofS_free (by decide)
theorem num_ne_troubles {n : Int} (h : GNum n) : num n ≠ Str.ofString "troubles" := fun e => by
  have h2 := num_digits h.1 116 (by rw [e, ofS_cps]; decide)
  omega
theorem at_end {L : List Str} {i : Int} (h : i = L.length) : decide (i < ((L.map D.str).length : Int)) = false := by simp; omega
theorem inner (L : List Str) (a b c d : Option T) : ∀ (l : List Tri) (pre post : List Str) (acc : List Tri), L = pre ++ l.map lTri ++ post → Stop post → (∀ t ∈ l, GTri t) → acc.length + l.length ≤ 1000000 →
    whileF lc_read_entries_1 lb_read_entries_1 [some (.sh (.lst (L.map D.str))), a, some (.sh (.int pre.length)), b, c, d, some (RT acc)] = some (.nx [some (.sh (.lst (L.map D.str))), a, some (.sh (.int ((pre.length : Int) + l.length))), b, c, d, some (RT (acc ++ l))])
  | [], pre, post, acc, e, hs, _, _ => by
    rw [whileF_eq]
    rcases hs with rfl | ⟨ws, r, rfl, hw, hg⟩
    · have : ¬ ((pre.length : Int) < (L.length : Int)) := by rw [e]; simp
      simp [lc_read_entries_1, this]
    · have ha := at_of (L := L) (pre := pre) (post := r) (x := lNs ws) (by rw [e]; simp)
      have s1 : splitT (lNs ws) (.sh (.str sp)) = some (lstS ((Str.ofString "troubles" :: ws).map D.str)) := by
        have := splitT_ok (a := lNs ws) (c := 32) (by have := lNs_len hw hg; omega)
        have e : Txt.split (lNs ws) (sgn 32) = Str.ofString "troubles" :: ws := sp_split (by simp) (fun x hx => by
          rcases List.mem_cons.mp hx with rfl | hx
          · exact troubles_free
          · exact (hg x hx).free.2)
        rw [e] at this
        exact this
      have h1 := ha.1
      have h2 : (pre.length : Int) < (L.length : Int) := ha.2
      have h2' : pre.length < L.length := by omega
      simp [lc_read_entries_1, h2, h2', h1, s1]
  | t :: l, pre, post, acc, e, hs, hg, hz => by
    have g := hg t (by simp)
    have ha := at_of (L := L) (pre := pre) (post := l.map lTri ++ post) (x := lTri t) (by rw [e]; simp)
    obtain ⟨u, e1, e2⟩ := read_triple_ok ha g
    have s1 : splitT (lTri t) (.sh (.str sp)) = some (lstS [.str (num t.1), .str t.2.1, .str (num t.2.2)]) := by
      have := splitT_ok (a := lTri t) (c := 32) (by have := lTri_len g; omega)
      have e : Txt.split (lTri t) (sgn 32) = [num t.1, t.2.1, num t.2.2] := sp_split (by simp) (fun x hx => by
        simp only [List.mem_cons, List.mem_nil_iff, or_false] at hx
        rcases hx with rfl | rfl | rfl
        · exact (num_free g.1).2
        · exact g.2.1.free.2
        · exact (num_free g.2.2).2)
      rw [e] at this
      exact this
    have h1 := ha.1
    have h2' : pre.length < L.length := by have := ha.2; omega
    have hn := num_ne_troubles g.1
    rw [List.length_cons] at hz
    have z : acc.length < sizeLine := nm_lt (by omega)
    have ih := inner L a b c d l (pre ++ [lTri t]) post (acc ++ [t]) (by rw [e]; simp) hs (fun x hx => hg x (List.mem_cons_of_mem _ hx)) (by simp; omega)
    rw [whileF_eq]
    simp only [List.length_append, List.length_cons, List.length_nil, List.append_assoc, List.singleton_append, Int.natCast_add, Int.natCast_one, Nat.zero_add] at ih
    have eq : (pre.length : Int) + ((l.length : Int) + 1) = (pre.length : Int) + 1 + l.length := by omega
    have eq' : (pre.length : Int) + ((t :: l).length : Int) = (pre.length : Int) + 1 + l.length := by rw [List.length_cons]; omega
    rw [eq', ← ih]
    simp [lc_read_entries_1, lb_read_entries_1, h2', h1, s1, hn, e1, e2, RT, z]
theorem lEnt_stop (es : List Ent) (h : ∀ e ∈ es, GEnt e) : Stop (es.flatMap lEnt) := by
  cases es with
  | nil => exact .inl rfl
  | cons e es =>
    have g := h e (by simp)
    exact .inr ⟨e.ns, _, by rw [List.flatMap_cons, lEnt]; rfl, by have := g.l1; omega, g.ns⟩
theorem outer (L : List Str) : ∀ (es : List Ent) (pre : List Str) (acc : List Ent) (b c d m : Option T), L = pre ++ es.flatMap lEnt → (∀ e ∈ es, GEnt e) → acc.length + es.length ≤ 1000000 →
    ∃ i b' c' d' m', whileF lc_read_entries_2 lb_read_entries_2 [some (.sh (.lst (L.map D.str))), some (.lst (acc.map tEnt)), some (.sh (.int pre.length)), b, c, d, m] = some (.nx [some (.sh (.lst (L.map D.str))), some (.lst ((acc ++ es).map tEnt)), i, b', c', d', m'])
  | [], pre, acc, b, c, d, m, e, _, _ => by
    rw [whileF_eq]
    have : ¬ ((pre.length : Int) < (L.length : Int)) := by rw [e]; simp
    have h2' : ¬ pre.length < L.length := by omega
    exact ⟨some (.sh (.int pre.length)), b, c, d, m, by simp [lc_read_entries_2, this, h2']⟩
  | e :: es, pre, acc, b, c, d, m, eL, hg, hz => by
    have g := hg e (by simp)
    have eL' : L = pre ++ lNs e.ns :: lRow e.row :: lCar e.car :: (e.mv.map lTri ++ es.flatMap lEnt) := by rw [eL, List.flatMap_cons, lEnt]; simp
    have a1 := at_of (L := L) (pre := pre) (x := lNs e.ns) eL'
    have a2 := at_of (L := L) (pre := pre ++ [lNs e.ns]) (x := lRow e.row) (post := lCar e.car :: (e.mv.map lTri ++ es.flatMap lEnt)) (by rw [eL']; simp)
    have a3 := at_of (L := L) (pre := pre ++ [lNs e.ns, lRow e.row]) (x := lCar e.car) (post := e.mv.map lTri ++ es.flatMap lEnt) (by rw [eL']; simp)
    have r1 := read_names_ok a1 (by have := g.l1; omega) g.ns
    have r2 := read_numbers_ok people_free pe_len a2 g.l2 g.row
    have r3 := read_numbers_ok carried_free ca_len a3 g.l3 g.car
    rw [List.length_cons] at hz
    have i1 := inner L (some (.lst (acc.map tEnt))) (some (.sh (.tup (e.ns.map D.str)))) (some (.sh (.tup (e.row.map D.int)))) (some (.sh (.tup (e.car.map D.int)))) e.mv (pre ++ [lNs e.ns, lRow e.row, lCar e.car]) (es.flatMap lEnt) [] (by rw [eL']; simp) (lEnt_stop es fun x hx => hg x (List.mem_cons_of_mem _ hx)) g.mv (by have := g.l4; simp; omega)
    obtain ⟨i, b', c', d', m', ih⟩ := outer L es (pre ++ lEnt e) (acc ++ [e]) (some (.sh (.tup (e.ns.map D.str)))) (some (.sh (.tup (e.row.map D.int)))) (some (.sh (.tup (e.car.map D.int)))) none (by rw [eL, List.flatMap_cons]; simp) (fun x hx => hg x (List.mem_cons_of_mem _ hx)) (by simp; omega)
    refine ⟨i, b', c', d', m', ?_⟩
    rw [whileF_eq]
    have h2' : pre.length < L.length := by have := a1.2; omega
    have z : acc.length < sizeLine := nm_lt (by omega)
    have el : ((pre ++ lEnt e).length : Int) = (pre.length : Int) + 3 + e.mv.length := by simp [lEnt]; omega
    rw [el] at ih
    have el3 : ((pre ++ [lNs e.ns, lRow e.row, lCar e.car]).length : Int) = (pre.length : Int) + 3 := by simp
    have el2 : ((pre ++ [lNs e.ns, lRow e.row]).length : Int) = (pre.length : Int) + 2 := by simp
    have el1 : ((pre ++ [lNs e.ns]).length : Int) = (pre.length : Int) + 1 := by simp
    rw [el3] at i1
    rw [el2] at r3
    rw [el1] at r2
    rw [← List.append_cons] at ih
    rw [← ih]
    simp only [RT, List.map_nil, List.nil_append] at i1
    have z4 : 4 ≤ sizeLine := nm_le (by decide)
    simp [lc_read_entries_2, lb_read_entries_2, h2', z4, r1, r2, r3, lstT_of, i1, z, tEnt, RT]
theorem read_entries_ok {es : List Ent} (h : ∀ e ∈ es, GEnt e) (hl : es.length ≤ 500) : fn_read_entries [.lst (((Str.ofString "cover") :: es.flatMap lEnt).map D.str)] = some (.ok (.lst (es.map tEnt))) := by
  obtain ⟨i, b', c', d', m', e⟩ := outer (Str.ofString "cover" :: es.flatMap lEnt) es [Str.ofString "cover"] [] none none none none rfl h (by simp; omega)
  simp only [List.map_cons, List.map_nil, List.length_cons, List.length_nil, List.nil_append] at e
  simp [fn_read_entries, fb_read_entries, fnF_ap, lstT_of]
  have e' : whileF lc_read_entries_2 lb_read_entries_2 [some (.sh (.lst (D.str (Str.ofString "cover") :: (es.flatMap lEnt).map D.str))), some (.lst []), some (.sh (.int 1)), none, none, none, none] = _ := e
  rw [e']
  simp
/-- a paper as it is read -/
def tPap : Pap → T
  | .mv l => .tup [.sh (.str "movement"), RT l]
  | .ct l => .tup [.sh (.str "cut"), RP l]
  | .cs ns row l => .tup [.sh (.str "course"), .sh (.tup (ns.map D.str)), .sh (.tup (row.map D.int)), RP l]
  | .cv l => .tup [.sh (.str "cover"), .lst (l.map tEnt)]
theorem dl_tEnt (l : List Ent) : T.dl (l.map tEnt) = l.map dEnt := by
  rw [dl_map, List.map_map]
  exact List.map_congr_left fun e _ => tEnt_d e
theorem tPap_d (p : Pap) : (tPap p).d = dPap p := by
  cases p <;> simp [tPap, dPap, dl_tEnt]
theorem tri_wild (l : List Tri) : (l.map fun t => T.sh (dTri t)).all okIn = true := by
  rw [List.all_eq_true]
  intro x hx
  obtain ⟨t, _, rfl⟩ := List.mem_map.mp hx
  rfl
theorem pr_wild (l : List Pr) : (l.map fun t => T.sh (dPr t)).all okIn = true := by
  rw [List.all_eq_true]
  intro x hx
  obtain ⟨t, _, rfl⟩ := List.mem_map.mp hx
  rfl
theorem ent_wild (l : List Ent) (h : ∀ e ∈ l, GEnt e) : (l.map tEnt).all okIn = true := by
  rw [List.all_eq_true]
  intro x hx
  obtain ⟨t, ht, rfl⟩ := List.mem_map.mp hx
  have := (h t ht).l4
  simp only [tEnt, RT, okIn, List.length_map, decide_eq_true_eq]
  omega
theorem tPap_spoil {p : Pap} (h : GPap p) : okSpoil (tPap p) = true := by
  cases p with
  | mv l =>
    have h1 : l.length < 1000000 := by have := h.1; omega
    have := tri_wild l
    simp only [tPap, RT, okSpoil, List.all_cons, okItem, List.length_map, List.map_map, Function.comp_def, this]
    simp [h1]
  | ct l =>
    have h1 : l.length < 1000000 := by have := h.1; omega
    have := pr_wild l
    simp only [tPap, RP, okSpoil, List.all_cons, okItem, List.length_map, List.map_map, Function.comp_def, this]
    simp [h1]
  | cs ns row l =>
    have h1 : l.length < 1000000 := by have := h.2.2.1; omega
    have := pr_wild l
    simp only [tPap, RP, okSpoil, List.all_cons, okItem, List.length_map, List.map_map, Function.comp_def, this]
    simp [h1]
  | cv l =>
    have h1 : l.length < 1000000 := by have := h.1; omega
    have := ent_wild l h.2
    simp only [tPap, okSpoil, List.all_cons, okItem, List.length_map, this]
    simp [h1]
end K48
end DV

namespace DV
open PySem PySem.Spec PyProof.Rows L2
/-- plain data, n deep -/
def Nice : Nat → D → Prop
  | 0, _ => False
  | _ + 1, .str _ => True
  | _ + 1, .int _ => True
  | n + 1, .tup l => l.length ≤ 1000000 ∧ ∀ x ∈ l, Nice n x
  | n + 1, .lst l => l.length ≤ 1000000 ∧ ∀ x ∈ l, Nice n x
  | _ + 1, _ => False
/-- all of it anew -/
def cp : Nat → D → T
  | n + 1, .tup l => .tup (l.map (cp n))
  | n + 1, .lst l => .lst (l.map (cp n))
  | _, d => .sh d
theorem cp_d : ∀ (n : Nat) (d : D), (cp n d).d = d
  | 0, d => by cases d <;> simp [cp]
  | n + 1, d => by
    cases d with
    | tup l => rw [cp, d_tup, dl_map, List.map_map, show (T.d ∘ cp n) = id from funext fun x => cp_d n x, List.map_id]
    | lst l => rw [cp, d_lst, dl_map, List.map_map, show (T.d ∘ cp n) = id from funext fun x => cp_d n x, List.map_id]
    | _ => simp [cp]
namespace K48
theorem lines_free {p : Pap} (h : GPap p) : ∀ x ∈ lines p, Free 10 x := by
  have f1 : Free 10 (Str.ofString "movement") := ofS_free (by decide)
  have f2 : Free 10 (Str.ofString "cut") := ofS_free (by decide)
  have f3 : Free 10 (Str.ofString "course") := ofS_free (by decide)
  have f4 : Free 10 (Str.ofString "cover") := ofS_free (by decide)
  have f5 : Free 10 (Str.ofString "troubles") := ofS_free (by decide)
  have f6 : Free 10 (Str.ofString "people") := ofS_free (by decide)
  have f7 : Free 10 (Str.ofString "carried") := ofS_free (by decide)
  have s : Free 10 sp := by simp [Free, sp, sgn]
  have tri : ∀ t : Tri, GTri t → Free 10 (lTri t) := fun t g => join_free s fun x hx => by
    simp only [List.mem_cons, List.mem_nil_iff, or_false] at hx
    rcases hx with rfl | rfl | rfl
    · exact (num_free g.1).1
    · exact g.2.1.free.1
    · exact (num_free g.2.2).1
  have pr : ∀ t : Pr, GPr t → Free 10 (lPr t) := fun t g => join_free s fun x hx => by
    simp only [List.mem_cons, List.mem_nil_iff, or_false] at hx
    rcases hx with rfl | rfl
    · exact g.1.free.1
    · exact (num_free g.2).1
  have nsf : ∀ l : List Str, (∀ x ∈ l, GName x) → Free 10 (lNs l) := fun l g => join_free s fun x hx => by
    rcases List.mem_cons.mp hx with rfl | hx
    · exact f5
    · exact (g x hx).free.1
  have isf : ∀ (f : Str) (l : List Int), Free 10 f → (∀ x ∈ l, GNum x) → Free 10 (Str.join sp (f :: l.map num)) := fun f l ff g => join_free s fun x hx => by
    rcases List.mem_cons.mp hx with rfl | hx
    · exact ff
    · obtain ⟨n, hn, rfl⟩ := List.mem_map.mp hx
      exact (num_free (g n hn)).1
  intro x hx
  cases p with
  | mv l =>
    rcases List.mem_cons.mp hx with rfl | hx
    · exact f1
    · obtain ⟨t, ht, rfl⟩ := List.mem_map.mp hx
      exact tri t (h.2 t ht)
  | ct l =>
    rcases List.mem_cons.mp hx with rfl | hx
    · exact f2
    · obtain ⟨t, ht, rfl⟩ := List.mem_map.mp hx
      exact pr t (h.2 t ht)
  | cs ns row l =>
    rcases List.mem_cons.mp hx with rfl | hx
    · exact f3
    · rcases List.mem_cons.mp hx with rfl | hx
      · exact nsf _ h.1.2
      · rcases List.mem_cons.mp hx with rfl | hx
        · exact isf _ _ f6 h.2.1.2
        · obtain ⟨t, ht, rfl⟩ := List.mem_map.mp hx
          exact pr t (h.2.2.2 t ht)
  | cv l =>
    rcases List.mem_cons.mp hx with rfl | hx
    · exact f4
    · obtain ⟨e, he, hx⟩ := List.mem_flatMap.mp hx
      have g := h.2 e he
      rcases List.mem_cons.mp hx with rfl | hx
      · exact nsf _ g.ns
      · rcases List.mem_cons.mp hx with rfl | hx
        · exact isf _ _ f6 g.row
        · rcases List.mem_cons.mp hx with rfl | hx
          · exact isf _ _ f7 g.car
          · obtain ⟨t, ht, rfl⟩ := List.mem_map.mp hx
            exact tri t (g.mv t ht)
theorem lines_split {p : Pap} (h : GPap p) : splitT (Str.join nl (lines p)) (.sh (.str nl)) = some (lstS ((lines p).map D.str)) := by
  have hw := lines_wt h
  have hj : (Str.join nl (lines p)).length ≤ wt (lines p) := join_wt 10 (lines p)
  have := splitT_ok (a := Str.join nl (lines p)) (c := 10) (by omega)
  have e : Txt.split (Str.join nl (lines p)) (sgn 10) = lines p := split_join (by cases p <;> simp [lines]) (lines_free h)
  rw [e] at this
  exact this
theorem read_mv (l : List Tri) (h : GPap (.mv l)) : fn_read_paper [.str (Str.join nl (lines (.mv l)))] = some (.ok (tPap (.mv l))) := by
  have s1 := lines_split h
  have hr := compL_rng (lo := 1) (hi := ((l.length : Int) + 1)) (n := l.length) (ρ := [some (.sh (.str (Str.join nl (lines (.mv l))))), some (.sh (.lst ((lines (.mv l)).map D.str))), none, none, none]) (tg := tgName 4) (f := le_read_paper_1) (g := fun i => T.sh (dTri (l.getD i default))) (by omega) (fun i hi => by
    have ha := at_of (L := lines (.mv l)) (pre := Str.ofString "movement" :: (l.take i).map lTri) (x := lTri (l.getD i default)) (post := (l.drop (i + 1)).map lTri) (by
      simp only [lines, List.cons_append, List.getD_eq_getElem?_getD, List.getElem?_eq_getElem hi, Option.getD_some]
      rw [← List.map_cons, ← List.map_append, ← List.drop_eq_getElem_cons hi, List.take_append_drop])
    have ei : ((Str.ofString "movement" :: (l.take i).map lTri).length : Int) = 1 + i := by simp; omega
    rw [ei] at ha
    obtain ⟨u, e1, e2⟩ := read_triple_ok ha (h.2 _ (by simp [List.getElem?_eq_getElem hi]))
    exact ⟨_, rfl, by simp [le_read_paper_1, e1, e2]⟩)
  rw [range_getD (fun t => T.sh (dTri t)) l] at hr
  have b1 := small_of (k := 1) (by omega)
  have b2 := small_of (k := (l.length : Int) + 1) (by have := h.1; omega)
  have z : l.length < sizeLine := nm_lt (by have := h.1; omega)
  simp only [lines, List.map_cons] at s1 hr ⊢
  simp only [List.map_map, Function.comp_def] at s1 hr
  simp [fn_read_paper, fb_read_paper, fnF_ap, s1, b1, b2, compZ, hr, z, tupT_of, tPap, RT, Function.comp_def]
theorem read_ct (l : List Pr) (h : GPap (.ct l)) : fn_read_paper [.str (Str.join nl (lines (.ct l)))] = some (.ok (tPap (.ct l))) := by
  have s1 := lines_split h
  have hr := compL_rng (lo := 1) (hi := ((l.length : Int) + 1)) (n := l.length) (ρ := [some (.sh (.str (Str.join nl (lines (.ct l))))), some (.sh (.lst ((lines (.ct l)).map D.str))), none, none, none]) (tg := tgName 4) (f := le_read_paper_2) (g := fun i => T.sh (dPr (l.getD i default))) (by omega) (fun i hi => by
    have ha := at_of (L := lines (.ct l)) (pre := Str.ofString "cut" :: (l.take i).map lPr) (x := lPr (l.getD i default)) (post := (l.drop (i + 1)).map lPr) (by
      simp only [lines, List.cons_append, List.getD_eq_getElem?_getD, List.getElem?_eq_getElem hi, Option.getD_some]
      rw [← List.map_cons, ← List.map_append, ← List.drop_eq_getElem_cons hi, List.take_append_drop])
    have ei : ((Str.ofString "cut" :: (l.take i).map lPr).length : Int) = 1 + i := by simp; omega
    rw [ei] at ha
    obtain ⟨u, e1, e2⟩ := read_pair_ok ha (h.2 _ (by simp [List.getElem?_eq_getElem hi]))
    exact ⟨_, rfl, by simp [le_read_paper_2, e1, e2]⟩)
  rw [range_getD (fun t => T.sh (dPr t)) l] at hr
  have b1 := small_of (k := 1) (by omega)
  have b2 := small_of (k := (l.length : Int) + 1) (by have := h.1; omega)
  have z : l.length < sizeLine := nm_lt (by have := h.1; omega)
  simp only [lines, List.map_cons] at s1 hr ⊢
  simp only [List.map_map, Function.comp_def] at s1 hr
  simp [fn_read_paper, fb_read_paper, fnF_ap, s1, b1, b2, compZ, hr, z, tupT_of, tPap, RP, Function.comp_def]
theorem read_cs (ns : List Str) (row : List Int) (l : List Pr) (h : GPap (.cs ns row l)) : fn_read_paper [.str (Str.join nl (lines (.cs ns row l)))] = some (.ok (tPap (.cs ns row l))) := by
  have s1 := lines_split h
  have a1 := at_of (L := lines (.cs ns row l)) (pre := [Str.ofString "course"]) (x := lNs ns) (post := lRow row :: l.map lPr) (by simp [lines])
  have a2 := at_of (L := lines (.cs ns row l)) (pre := [Str.ofString "course", lNs ns]) (x := lRow row) (post := l.map lPr) (by simp [lines])
  have q1 : (([Str.ofString "course"] : List Str).length : Int) = 1 := by simp
  have q2 : (([Str.ofString "course", lNs ns] : List Str).length : Int) = 2 := by simp
  rw [q1] at a1
  rw [q2] at a2
  have r1 : fn_read_names [.lst ((lines (.cs ns row l)).map D.str), .int 1] = some (.ok (.sh (.tup (ns.map D.str)))) := read_names_ok a1 h.1.1 h.1.2
  have r2 : fn_read_numbers [.lst ((lines (.cs ns row l)).map D.str), .int 2, .str (Str.ofString "people")] = some (.ok (.sh (.tup (row.map D.int)))) := read_numbers_ok people_free pe_len a2 h.2.1.1 h.2.1.2
  have hr := compL_rng (lo := 3) (hi := ((l.length : Int) + 1 + 1 + 1)) (n := l.length) (ρ := [some (.sh (.str (Str.join nl (lines (.cs ns row l))))), some (.sh (.lst ((lines (.cs ns row l)).map D.str))), some (.sh (.tup (ns.map D.str))), some (.sh (.tup (row.map D.int))), none]) (tg := tgName 4) (f := le_read_paper_3) (g := fun i => T.sh (dPr (l.getD i default))) (by omega) (fun i hi => by
    have ha := at_of (L := lines (.cs ns row l)) (pre := Str.ofString "course" :: lNs ns :: lRow row :: (l.take i).map lPr) (x := lPr (l.getD i default)) (post := (l.drop (i + 1)).map lPr) (by
      simp only [lines, List.cons_append, List.getD_eq_getElem?_getD, List.getElem?_eq_getElem hi, Option.getD_some]
      rw [← List.map_cons, ← List.map_append, ← List.drop_eq_getElem_cons hi, List.take_append_drop])
    have ei : ((Str.ofString "course" :: lNs ns :: lRow row :: (l.take i).map lPr).length : Int) = 3 + i := by simp; omega
    rw [ei] at ha
    obtain ⟨u, e1, e2⟩ := read_pair_ok ha (h.2.2.2 _ (by simp [List.getElem?_eq_getElem hi]))
    exact ⟨_, rfl, by simp [le_read_paper_3, e1, e2]⟩)
  rw [range_getD (fun t => T.sh (dPr t)) l] at hr
  have b1 := small_of (k := 3) (by omega)
  have b2 := small_of (k := (l.length : Int) + 1 + 1 + 1) (by have := h.2.2.1; omega)
  have z : l.length < sizeLine := nm_lt (by have := h.2.2.1; omega)
  simp only [lines, List.map_cons, List.length_cons, List.length_nil] at s1 hr r1 r2 ⊢
  simp only [List.map_map, Function.comp_def] at s1 hr r1 r2
  simp [fn_read_paper, fb_read_paper, fnF_ap, s1, b1, b2, compZ, hr, r1, r2, z, tupT_of, tPap, RP, Function.comp_def]
theorem read_cv (l : List Ent) (h : GPap (.cv l)) : fn_read_paper [.str (Str.join nl (lines (.cv l)))] = some (.ok (tPap (.cv l))) := by
  have s1 := lines_split h
  have r := read_entries_ok h.2 h.1
  simp only [lines, List.map_cons] at s1 r ⊢
  simp [fn_read_paper, fb_read_paper, fnF_ap, s1, r, tupT_of, tPap]
theorem read_ok {p : Pap} (h : GPap p) : fn_read_paper [.str (Str.join nl (lines p))] = some (.ok (tPap p)) := by
  cases p with
  | mv l => exact read_mv l h
  | ct l => exact read_ct l h
  | cs ns row l => exact read_cs ns row l h
  | cv l => exact read_cv l h
end K48
end DV

namespace DV
open PySem PySem.Spec PyProof.Rows L2
theorem Nice.mono : ∀ {n : Nat} {d : D}, Nice n d → Nice (n + 1) d
  | 0, d, h => by simp [Nice] at h
  | n + 1, d, h => by
    cases d <;> simp only [Nice] at h ⊢
    · exact ⟨h.1, fun x hx => (h.2 x hx).mono⟩
    · exact ⟨h.1, fun x hx => (h.2 x hx).mono⟩
namespace K48
theorem copy_ok : ∀ (n : Nat) (d : D), Nice n d → fn__law_copy n [d] = some (.ok (cp n d))
  | 0, d, h => by simp [Nice] at h
  | n + 1, d, h => by
    cases d with
    | str x => simp [fn__law_copy, fb__law_copy, fnF_ap, tyD, isB, cp]
    | int x => simp [fn__law_copy, fb__law_copy, fnF_ap, tyD, isB, cp]
    | tup l =>
      obtain ⟨h1, h2⟩ := h
      have e := compL_as (ρ := [some (.sh (.tup l)), none]) (tg := tgName 1) (f := le__law_copy_1 (fn__law_copy n)) (as := l) (mk := id) (g := cp n) (fun a ha => ⟨_, rfl, by simp [le__law_copy_1, copy_ok n a (h2 a ha)]⟩)
      rw [List.map_id] at e
      have z : l.length < sizeLine := nm_lt h1
      simp [fn__law_copy, fb__law_copy, fnF_ap, tyD, isB, cp, compZ, e, z]
    | lst l =>
      obtain ⟨h1, h2⟩ := h
      have e := compL_as (ρ := [some (.sh (.lst l)), none]) (tg := tgName 1) (f := le__law_copy_2 (fn__law_copy n)) (as := l) (mk := id) (g := cp n) (fun a ha => ⟨_, rfl, by simp [le__law_copy_2, copy_ok n a (h2 a ha)]⟩)
      rw [List.map_id] at e
      have z : l.length < sizeLine := nm_lt h1
      simp [fn__law_copy, fb__law_copy, fnF_ap, tyD, isB, cp, compZ, e, z]
    | _ => simp [Nice] at h
theorem is_num (i : Int) : fn__law_is_number [.int i] = some (.ok (.sh (.bl true))) := by
  simp [fn__law_is_number, fb__law_is_number, fnF_ap, tyD, isB]
/-- a sequence -/
def seqOf (b : Bool) (l : List D) : D := if b then .tup l else .lst l
theorem ix_seqOf (b : Bool) (l : List D) {i : Nat} (h : i < l.length) : ixT (.sh (seqOf b l)) (.sh (.int (i : Int))) = some (.sh l[i]) := by
  cases b
  · exact ixT_lstn h
  · exact ixT_tupn h
theorem alike_loop (b : Bool) (l : List D) (R : FD) (h : ∀ x ∈ l, R [x, x] = some (.ok (.sh (.bl true)))) : ∀ (ts : List T) (x : Option T), (∀ t ∈ ts, ∃ i : Nat, t = .sh (.int (i : Int)) ∧ i < l.length) →
    ∃ x', forF (tgName 2) (lb__law_alike_1 R) ts [some (.sh (seqOf b l)), some (.sh (seqOf b l)), x] = some (.nx [some (.sh (seqOf b l)), some (.sh (seqOf b l)), x'])
  | [], x, _ => ⟨x, rfl⟩
  | t :: ts, x, ht => by
    obtain ⟨i, rfl, hi⟩ := ht t (by simp)
    obtain ⟨x', e⟩ := alike_loop b l R h ts (some (.sh (.int (i : Int)))) fun s hs => ht s (List.mem_cons_of_mem _ hs)
    refine ⟨x', ?_⟩
    have h1 := ix_seqOf b l hi
    have h2 := h l[i] (List.getElem_mem hi)
    rw [← e]
    simp [forF, lb__law_alike_1, h1, h2]
theorem range_nat (n : Nat) : ∀ t ∈ rangeL 0 (n : Int), ∃ i : Nat, t = .sh (.int (i : Int)) ∧ i < n := fun t ht => by
  obtain ⟨i, e, h0, h1⟩ := rangeL_mem ht
  obtain ⟨m, rfl⟩ := Int.eq_ofNat_of_zero_le h0
  exact ⟨m, e, by omega⟩
theorem alike_ok : ∀ (n : Nat) (d : D), Nice n d → fn__law_alike n [d, d] = some (.ok (.sh (.bl true)))
  | 0, d, h => by simp [Nice] at h
  | n + 1, d, h => by
    cases d with
    | str x => simp [fn__law_alike, fb__law_alike, fnF_ap, tyD, isB]
    | int x => simp [fn__law_alike, fb__law_alike, fnF_ap, tyD, isB, is_num]
    | tup l =>
      obtain ⟨h1, h2⟩ := h
      obtain ⟨x', e⟩ := alike_loop true l (fn__law_alike n) (fun x hx => alike_ok n x (h2 x hx)) (rangeL 0 l.length) none (range_nat _)
      have b := small_of (k := l.length) (by omega)
      simp only [seqOf, if_true] at e
      simp [fn__law_alike, fb__law_alike, fnF_ap, tyD, isB, b, e]
    | lst l =>
      obtain ⟨h1, h2⟩ := h
      obtain ⟨x', e⟩ := alike_loop false l (fn__law_alike n) (fun x hx => alike_ok n x (h2 x hx)) (rangeL 0 l.length) none (range_nat _)
      have b := small_of (k := l.length) (by omega)
      simp only [seqOf, Bool.false_eq_true, if_false] at e
      simp [fn__law_alike, fb__law_alike, fnF_ap, tyD, isB, b, e]
    | _ => simp [Nice] at h
theorem nice_strs (n : Nat) {l : List Str} (h : l.length ≤ 1000000) : Nice (n + 2) (.tup (l.map D.str)) := ⟨by simpa using h, fun x hx => by obtain ⟨a, _, rfl⟩ := List.mem_map.mp hx; trivial⟩
theorem nice_ints (n : Nat) {l : List Int} (h : l.length ≤ 1000000) : Nice (n + 2) (.tup (l.map D.int)) := ⟨by simpa using h, fun x hx => by obtain ⟨a, _, rfl⟩ := List.mem_map.mp hx; trivial⟩
theorem nice_tri (n : Nat) (t : Tri) : Nice (n + 2) (dTri t) := ⟨by simp, fun x hx => by
  simp only [List.mem_cons, List.mem_nil_iff, or_false] at hx
  rcases hx with rfl | rfl | rfl <;> trivial⟩
theorem nice_pr (n : Nat) (t : Pr) : Nice (n + 2) (dPr t) := ⟨by simp, fun x hx => by
  simp only [List.mem_cons, List.mem_nil_iff, or_false] at hx
  rcases hx with rfl | rfl <;> trivial⟩
theorem nice_tris (n : Nat) {l : List Tri} (h : l.length ≤ 1000000) : Nice (n + 3) (.lst (l.map dTri)) := ⟨by simpa using h, fun x hx => by obtain ⟨a, _, rfl⟩ := List.mem_map.mp hx; exact nice_tri n a⟩
theorem nice_prs (n : Nat) {l : List Pr} (h : l.length ≤ 1000000) : Nice (n + 3) (.lst (l.map dPr)) := ⟨by simpa using h, fun x hx => by obtain ⟨a, _, rfl⟩ := List.mem_map.mp hx; exact nice_pr n a⟩
theorem nice_ent (n : Nat) {e : Ent} (g : GEnt e) : Nice (n + 4) (dEnt e) := ⟨by simp, fun x hx => by
  simp only [List.mem_cons, List.mem_nil_iff, or_false] at hx
  rcases hx with rfl | rfl | rfl | rfl
  · exact nice_strs (n + 1) (by have := g.l1; omega)
  · exact nice_ints (n + 1) (by have := g.l2; omega)
  · exact nice_ints (n + 1) (by have := g.l3; omega)
  · exact nice_tris n (by have := g.l4; omega)⟩
theorem nice_pap {p : Pap} (h : GPap p) : Nice 8 (dPap p) := by
  cases p with
  | mv l => exact ⟨by simp, fun x hx => by
      simp only [List.mem_cons, List.mem_nil_iff, or_false] at hx
      rcases hx with rfl | rfl
      · trivial
      · exact nice_tris 4 (by have := h.1; omega)⟩
  | ct l => exact ⟨by simp, fun x hx => by
      simp only [List.mem_cons, List.mem_nil_iff, or_false] at hx
      rcases hx with rfl | rfl
      · trivial
      · exact nice_prs 4 (by have := h.1; omega)⟩
  | cs ns row l => exact ⟨by simp, fun x hx => by
      simp only [List.mem_cons, List.mem_nil_iff, or_false] at hx
      rcases hx with rfl | rfl | rfl | rfl
      · trivial
      · exact nice_strs 5 (by have := h.1.1; omega)
      · exact nice_ints 5 (by have := h.2.1.1; omega)
      · exact nice_prs 4 (by have := h.2.2.1; omega)⟩
  | cv l => exact ⟨by simp, fun x hx => by
      simp only [List.mem_cons, List.mem_nil_iff, or_false] at hx
      rcases hx with rfl | rfl
      · trivial
      · exact ⟨by have := h.1; simp; omega, fun x hx => by obtain ⟨a, ha, rfl⟩ := List.mem_map.mp hx; exact nice_ent 2 (h.2 a ha)⟩⟩
theorem cp_pap {p : Pap} (h : GPap p) : ∃ ts, cp 8 (dPap p) = .tup ts ∧ okSpoil (.tup ts) = true := by
  have tris : ∀ l : List Tri, (l.map fun t => cp 6 (dTri t)).all okIn = true := fun l => by
    rw [List.all_eq_true]
    intro x hx
    obtain ⟨a, _, rfl⟩ := List.mem_map.mp hx
    rfl
  have prs : ∀ l : List Pr, (l.map fun t => cp 6 (dPr t)).all okIn = true := fun l => by
    rw [List.all_eq_true]
    intro x hx
    obtain ⟨a, _, rfl⟩ := List.mem_map.mp hx
    rfl
  have ents : ∀ l : List Ent, (∀ e ∈ l, GEnt e) → (l.map fun t => cp 6 (dEnt t)).all okIn = true := fun l g => by
    rw [List.all_eq_true]
    intro x hx
    obtain ⟨a, ha, rfl⟩ := List.mem_map.mp hx
    have := (g a ha).l4
    simp only [dEnt, cp, List.map_cons, List.map_nil, okIn, List.length_map, decide_eq_true_eq]
    omega
  cases p with
  | mv l =>
    refine ⟨_, rfl, ?_⟩
    have h1 : l.length < 1000000 := by have := h.1; omega
    have := tris l
    simp only [List.map_cons, List.map_nil, cp, okSpoil, List.all_cons, okItem, List.length_map, List.map_map, Function.comp_def, this]
    simp [h1]
  | ct l =>
    refine ⟨_, rfl, ?_⟩
    have h1 : l.length < 1000000 := by have := h.1; omega
    have := prs l
    simp only [List.map_cons, List.map_nil, cp, okSpoil, List.all_cons, okItem, List.length_map, List.map_map, Function.comp_def, this]
    simp [h1]
  | cs ns row l =>
    refine ⟨_, rfl, ?_⟩
    have h1 : l.length < 1000000 := by have := h.2.2.1; omega
    have := prs l
    simp only [List.map_cons, List.map_nil, cp, okSpoil, List.all_cons, okItem, List.length_map, List.map_map, Function.comp_def, this]
    simp [h1]
  | cv l =>
    refine ⟨_, rfl, ?_⟩
    have h1 : l.length < 1000000 := by have := h.1; omega
    have := ents l h.2
    simp only [List.map_cons, List.map_nil, cp, okSpoil, List.all_cons, okItem, List.length_map, List.map_map, Function.comp_def, this]
    simp [h1]
theorem tPap_tup (p : Pap) : ∃ ts, tPap p = .tup ts := by cases p <;> exact ⟨_, rfl⟩
theorem there_ok {p : Pap} (h : GPap p) : fn__law_there_and_back [dPap p] = some (.ok (.sh (.bl true))) := by
  have hn := nice_pap h
  have c := copy_ok 8 _ hn
  have a := alike_ok 8 _ hn
  have w := write_ok h
  have t := text_ok h
  have r := read_ok h
  have rd := tPap_d p
  have rs := tPap_spoil h
  have cd := cp_d 8 (dPap p)
  obtain ⟨ts, e1, e2⟩ := cp_pap h
  obtain ⟨us, e3⟩ := tPap_tup p
  rw [e1] at c cd
  rw [e3] at r rd rs
  simp only [d_tup] at cd rd
  generalize Str.join nl (lines p) = x at *
  generalize dPap p = d at *
  simp [fn__law_there_and_back, fb__law_there_and_back, fnF_ap, c, a, w, t, r, rd, rs, cd, e2, tyD, isB]
theorem loop1 (a b : Option T) : ∀ (ps : List Pap) (x : Option T), (∀ p ∈ ps, GPap p) → ∃ x', forF (tgName 2) lb_law_1 ((ps.map dPap).map T.sh) [a, b, x] = some (.nx [a, b, x'])
  | [], x, _ => ⟨x, rfl⟩
  | p :: ps, x, h => by
    obtain ⟨x', e⟩ := loop1 a b ps (some (.sh (dPap p))) fun s hs => h s (List.mem_cons_of_mem _ hs)
    refine ⟨x', ?_⟩
    have h1 := there_ok (h p (by simp))
    rw [List.map_cons, List.map_cons, ← e]
    simp [forF, lb_law_1, h1]
theorem loop2 (a b : Option T) : ∀ (ps : List Pap) (x : Option T), (∀ p ∈ ps, GPap p) → ∃ x', forF (tgName 2) lb_law_2 ((ps.map dPap).map T.sh) [a, b, x] = some (.nx [a, b, x'])
  | [], x, _ => ⟨x, rfl⟩
  | p :: ps, x, h => by
    obtain ⟨x', e⟩ := loop2 a b ps (some (.sh (dPap p))) fun s hs => h s (List.mem_cons_of_mem _ hs)
    refine ⟨x', ?_⟩
    have g := h p (by simp)
    have h1 := text_ok g
    have h2 := read_ok g
    have h3 := tPap_d p
    have h4 := alike_ok 8 _ (nice_pap g)
    rw [List.map_cons, List.map_cons, ← e]
    simp [forF, lb_law_2, h1, h2, h3, h4]
theorem law_ok (ns : List Int) : fn_law [scr ns] = some (.ok (.sh (.bl true))) := by
  obtain ⟨ps, t, e1, e2, _, g⟩ := papers_ok ns
  obtain ⟨x1, l1⟩ := loop1 (some (.sh (scr ns))) (some (.sh (.lst (ps.map dPap)))) ps none g
  obtain ⟨x2, l2⟩ := loop2 (some (.sh (scr ns))) (some (.sh (.lst (ps.map dPap)))) ps x1 g
  simp only [List.map_map] at l1 l2
  simp [fn_law, fb_law, fnF_ap, e1, e2, l1, l2]
end K48
end DV

namespace DV
namespace K48
open PySem PySem.Spec PyProof.Rows L2
theorem all_mk {l : PySem.W.OpenLaw} {w : World} {K : PySem.W.Frag} {h : Heap} {mg : Str → Option Value} {fa : Addr} (X : K.In h) (G : h.Ns mainGlobals mg) (hfa : mg "law" = some (.ref fa))
    {f0 : Addr} {od0 an0 : Option Addr} {sl0 : Array (Option Value)} {oc0 kV0 dc0 pm0 cd0 ct0 : Value}
    (a0 : PySem.W.nsIn K mainGlobals "is_name" = some (some (.ref f0))) (l0 : K.lookup f0 = some ⟨oc0, od0, .func (PySem.W.fnOf "is_name" "is_name" (defArgs s_is_name) (defBody s_is_name) (defScope s_is_name) .none kV0 dc0 pm0 an0 cd0 ct0), sl0⟩) (c0 : PySem.W.codeIn K cd0 "is_name" = true) (k0 : PySem.W.keepIn K (.ref f0) = true)
    {f1 : Addr} {od1 an1 : Option Addr} {sl1 : Array (Option Value)} {oc1 kV1 dc1 pm1 cd1 ct1 : Value}
    (a1 : PySem.W.nsIn K mainGlobals "item_line" = some (some (.ref f1))) (l1 : K.lookup f1 = some ⟨oc1, od1, .func (PySem.W.fnOf "item_line" "item_line" (defArgs s_item_line) (defBody s_item_line) (defScope s_item_line) .none kV1 dc1 pm1 an1 cd1 ct1), sl1⟩) (c1 : PySem.W.codeIn K cd1 "item_line" = true) (k1 : PySem.W.keepIn K (.ref f1) = true)
    {f2 : Addr} {od2 an2 : Option Addr} {sl2 : Array (Option Value)} {oc2 kV2 dc2 pm2 cd2 ct2 : Value}
    (a2 : PySem.W.nsIn K mainGlobals "triple_lines" = some (some (.ref f2))) (l2 : K.lookup f2 = some ⟨oc2, od2, .func (PySem.W.fnOf "triple_lines" "triple_lines" (defArgs s_triple_lines) (defBody s_triple_lines) (defScope s_triple_lines) .none kV2 dc2 pm2 an2 cd2 ct2), sl2⟩) (c2 : PySem.W.codeIn K cd2 "triple_lines" = true) (k2 : PySem.W.keepIn K (.ref f2) = true)
    {f3 : Addr} {od3 an3 : Option Addr} {sl3 : Array (Option Value)} {oc3 kV3 dc3 pm3 cd3 ct3 : Value}
    (a3 : PySem.W.nsIn K mainGlobals "pair_lines" = some (some (.ref f3))) (l3 : K.lookup f3 = some ⟨oc3, od3, .func (PySem.W.fnOf "pair_lines" "pair_lines" (defArgs s_pair_lines) (defBody s_pair_lines) (defScope s_pair_lines) .none kV3 dc3 pm3 an3 cd3 ct3), sl3⟩) (c3 : PySem.W.codeIn K cd3 "pair_lines" = true) (k3 : PySem.W.keepIn K (.ref f3) = true)
    {f4 : Addr} {od4 an4 : Option Addr} {sl4 : Array (Option Value)} {oc4 kV4 dc4 pm4 cd4 ct4 : Value}
    (a4 : PySem.W.nsIn K mainGlobals "entry_lines" = some (some (.ref f4))) (l4 : K.lookup f4 = some ⟨oc4, od4, .func (PySem.W.fnOf "entry_lines" "entry_lines" (defArgs s_entry_lines) (defBody s_entry_lines) (defScope s_entry_lines) .none kV4 dc4 pm4 an4 cd4 ct4), sl4⟩) (c4 : PySem.W.codeIn K cd4 "entry_lines" = true) (k4 : PySem.W.keepIn K (.ref f4) = true)
    {f5 : Addr} {od5 an5 : Option Addr} {sl5 : Array (Option Value)} {oc5 kV5 dc5 pm5 cd5 ct5 : Value}
    (a5 : PySem.W.nsIn K mainGlobals "write_paper" = some (some (.ref f5))) (l5 : K.lookup f5 = some ⟨oc5, od5, .func (PySem.W.fnOf "write_paper" "write_paper" (defArgs s_write_paper) (defBody s_write_paper) (defScope s_write_paper) .none kV5 dc5 pm5 an5 cd5 ct5), sl5⟩) (c5 : PySem.W.codeIn K cd5 "write_paper" = true) (k5 : PySem.W.keepIn K (.ref f5) = true)
    {f6 : Addr} {od6 an6 : Option Addr} {sl6 : Array (Option Value)} {oc6 kV6 dc6 pm6 cd6 ct6 : Value}
    (a6 : PySem.W.nsIn K mainGlobals "is_number" = some (some (.ref f6))) (l6 : K.lookup f6 = some ⟨oc6, od6, .func (PySem.W.fnOf "is_number" "is_number" (defArgs s_is_number) (defBody s_is_number) (defScope s_is_number) .none kV6 dc6 pm6 an6 cd6 ct6), sl6⟩) (c6 : PySem.W.codeIn K cd6 "is_number" = true) (k6 : PySem.W.keepIn K (.ref f6) = true)
    {f7 : Addr} {od7 an7 : Option Addr} {sl7 : Array (Option Value)} {oc7 kV7 dc7 pm7 cd7 ct7 : Value}
    (a7 : PySem.W.nsIn K mainGlobals "words_behind" = some (some (.ref f7))) (l7 : K.lookup f7 = some ⟨oc7, od7, .func (PySem.W.fnOf "words_behind" "words_behind" (defArgs s_words_behind) (defBody s_words_behind) (defScope s_words_behind) .none kV7 dc7 pm7 an7 cd7 ct7), sl7⟩) (c7 : PySem.W.codeIn K cd7 "words_behind" = true) (k7 : PySem.W.keepIn K (.ref f7) = true)
    {f8 : Addr} {od8 an8 : Option Addr} {sl8 : Array (Option Value)} {oc8 kV8 dc8 pm8 cd8 ct8 : Value}
    (a8 : PySem.W.nsIn K mainGlobals "read_names" = some (some (.ref f8))) (l8 : K.lookup f8 = some ⟨oc8, od8, .func (PySem.W.fnOf "read_names" "read_names" (defArgs s_read_names) (defBody s_read_names) (defScope s_read_names) .none kV8 dc8 pm8 an8 cd8 ct8), sl8⟩) (c8 : PySem.W.codeIn K cd8 "read_names" = true) (k8 : PySem.W.keepIn K (.ref f8) = true)
    {f9 : Addr} {od9 an9 : Option Addr} {sl9 : Array (Option Value)} {oc9 kV9 dc9 pm9 cd9 ct9 : Value}
    (a9 : PySem.W.nsIn K mainGlobals "read_numbers" = some (some (.ref f9))) (l9 : K.lookup f9 = some ⟨oc9, od9, .func (PySem.W.fnOf "read_numbers" "read_numbers" (defArgs s_read_numbers) (defBody s_read_numbers) (defScope s_read_numbers) .none kV9 dc9 pm9 an9 cd9 ct9), sl9⟩) (c9 : PySem.W.codeIn K cd9 "read_numbers" = true) (k9 : PySem.W.keepIn K (.ref f9) = true)
    {f10 : Addr} {od10 an10 : Option Addr} {sl10 : Array (Option Value)} {oc10 kV10 dc10 pm10 cd10 ct10 : Value}
    (a10 : PySem.W.nsIn K mainGlobals "read_triple" = some (some (.ref f10))) (l10 : K.lookup f10 = some ⟨oc10, od10, .func (PySem.W.fnOf "read_triple" "read_triple" (defArgs s_read_triple) (defBody s_read_triple) (defScope s_read_triple) .none kV10 dc10 pm10 an10 cd10 ct10), sl10⟩) (c10 : PySem.W.codeIn K cd10 "read_triple" = true) (k10 : PySem.W.keepIn K (.ref f10) = true)
    {f11 : Addr} {od11 an11 : Option Addr} {sl11 : Array (Option Value)} {oc11 kV11 dc11 pm11 cd11 ct11 : Value}
    (a11 : PySem.W.nsIn K mainGlobals "read_pair" = some (some (.ref f11))) (l11 : K.lookup f11 = some ⟨oc11, od11, .func (PySem.W.fnOf "read_pair" "read_pair" (defArgs s_read_pair) (defBody s_read_pair) (defScope s_read_pair) .none kV11 dc11 pm11 an11 cd11 ct11), sl11⟩) (c11 : PySem.W.codeIn K cd11 "read_pair" = true) (k11 : PySem.W.keepIn K (.ref f11) = true)
    {f12 : Addr} {od12 an12 : Option Addr} {sl12 : Array (Option Value)} {oc12 kV12 dc12 pm12 cd12 ct12 : Value}
    (a12 : PySem.W.nsIn K mainGlobals "read_entries" = some (some (.ref f12))) (l12 : K.lookup f12 = some ⟨oc12, od12, .func (PySem.W.fnOf "read_entries" "read_entries" (defArgs s_read_entries) (defBody s_read_entries) (defScope s_read_entries) .none kV12 dc12 pm12 an12 cd12 ct12), sl12⟩) (c12 : PySem.W.codeIn K cd12 "read_entries" = true) (k12 : PySem.W.keepIn K (.ref f12) = true)
    {f13 : Addr} {od13 an13 : Option Addr} {sl13 : Array (Option Value)} {oc13 kV13 dc13 pm13 cd13 ct13 : Value}
    (a13 : PySem.W.nsIn K mainGlobals "read_paper" = some (some (.ref f13))) (l13 : K.lookup f13 = some ⟨oc13, od13, .func (PySem.W.fnOf "read_paper" "read_paper" (defArgs s_read_paper) (defBody s_read_paper) (defScope s_read_paper) .none kV13 dc13 pm13 an13 cd13 ct13), sl13⟩) (c13 : PySem.W.codeIn K cd13 "read_paper" = true) (k13 : PySem.W.keepIn K (.ref f13) = true)
    {f14 : Addr} {od14 an14 : Option Addr} {sl14 : Array (Option Value)} {oc14 kV14 dc14 pm14 cd14 ct14 : Value}
    (a14 : PySem.W.nsIn K mainGlobals "_law_draw" = some (some (.ref f14))) (l14 : K.lookup f14 = some ⟨oc14, od14, .func (PySem.W.fnOf "_law_draw" "_law_draw" (defArgs s__law_draw) (defBody s__law_draw) (defScope s__law_draw) .none kV14 dc14 pm14 an14 cd14 ct14), sl14⟩) (c14 : PySem.W.codeIn K cd14 "_law_draw" = true) (k14 : PySem.W.keepIn K (.ref f14) = true)
    {f15 : Addr} {od15 an15 : Option Addr} {sl15 : Array (Option Value)} {oc15 kV15 dc15 pm15 cd15 ct15 : Value}
    (a15 : PySem.W.nsIn K mainGlobals "_law_is_number" = some (some (.ref f15))) (l15 : K.lookup f15 = some ⟨oc15, od15, .func (PySem.W.fnOf "_law_is_number" "_law_is_number" (defArgs s__law_is_number) (defBody s__law_is_number) (defScope s__law_is_number) .none kV15 dc15 pm15 an15 cd15 ct15), sl15⟩) (c15 : PySem.W.codeIn K cd15 "_law_is_number" = true) (k15 : PySem.W.keepIn K (.ref f15) = true)
    {f16 : Addr} {od16 an16 : Option Addr} {sl16 : Array (Option Value)} {oc16 kV16 dc16 pm16 cd16 ct16 : Value}
    (a16 : PySem.W.nsIn K mainGlobals "_law_word" = some (some (.ref f16))) (l16 : K.lookup f16 = some ⟨oc16, od16, .func (PySem.W.fnOf "_law_word" "_law_word" (defArgs s__law_word) (defBody s__law_word) (defScope s__law_word) .none kV16 dc16 pm16 an16 cd16 ct16), sl16⟩) (c16 : PySem.W.codeIn K cd16 "_law_word" = true) (k16 : PySem.W.keepIn K (.ref f16) = true)
    {f17 : Addr} {od17 an17 : Option Addr} {sl17 : Array (Option Value)} {oc17 kV17 dc17 pm17 cd17 ct17 : Value}
    (a17 : PySem.W.nsIn K mainGlobals "_law_amount" = some (some (.ref f17))) (l17 : K.lookup f17 = some ⟨oc17, od17, .func (PySem.W.fnOf "_law_amount" "_law_amount" (defArgs s__law_amount) (defBody s__law_amount) (defScope s__law_amount) .none kV17 dc17 pm17 an17 cd17 ct17), sl17⟩) (c17 : PySem.W.codeIn K cd17 "_law_amount" = true) (k17 : PySem.W.keepIn K (.ref f17) = true)
    {f18 : Addr} {od18 an18 : Option Addr} {sl18 : Array (Option Value)} {oc18 kV18 dc18 pm18 cd18 ct18 : Value}
    (a18 : PySem.W.nsIn K mainGlobals "_law_names" = some (some (.ref f18))) (l18 : K.lookup f18 = some ⟨oc18, od18, .func (PySem.W.fnOf "_law_names" "_law_names" (defArgs s__law_names) (defBody s__law_names) (defScope s__law_names) .none kV18 dc18 pm18 an18 cd18 ct18), sl18⟩) (c18 : PySem.W.codeIn K cd18 "_law_names" = true) (k18 : PySem.W.keepIn K (.ref f18) = true)
    {f19 : Addr} {od19 an19 : Option Addr} {sl19 : Array (Option Value)} {oc19 kV19 dc19 pm19 cd19 ct19 : Value}
    (a19 : PySem.W.nsIn K mainGlobals "_law_amounts" = some (some (.ref f19))) (l19 : K.lookup f19 = some ⟨oc19, od19, .func (PySem.W.fnOf "_law_amounts" "_law_amounts" (defArgs s__law_amounts) (defBody s__law_amounts) (defScope s__law_amounts) .none kV19 dc19 pm19 an19 cd19 ct19), sl19⟩) (c19 : PySem.W.codeIn K cd19 "_law_amounts" = true) (k19 : PySem.W.keepIn K (.ref f19) = true)
    {f20 : Addr} {od20 an20 : Option Addr} {sl20 : Array (Option Value)} {oc20 kV20 dc20 pm20 cd20 ct20 : Value}
    (a20 : PySem.W.nsIn K mainGlobals "_law_triples" = some (some (.ref f20))) (l20 : K.lookup f20 = some ⟨oc20, od20, .func (PySem.W.fnOf "_law_triples" "_law_triples" (defArgs s__law_triples) (defBody s__law_triples) (defScope s__law_triples) .none kV20 dc20 pm20 an20 cd20 ct20), sl20⟩) (c20 : PySem.W.codeIn K cd20 "_law_triples" = true) (k20 : PySem.W.keepIn K (.ref f20) = true)
    {f21 : Addr} {od21 an21 : Option Addr} {sl21 : Array (Option Value)} {oc21 kV21 dc21 pm21 cd21 ct21 : Value}
    (a21 : PySem.W.nsIn K mainGlobals "_law_pairs" = some (some (.ref f21))) (l21 : K.lookup f21 = some ⟨oc21, od21, .func (PySem.W.fnOf "_law_pairs" "_law_pairs" (defArgs s__law_pairs) (defBody s__law_pairs) (defScope s__law_pairs) .none kV21 dc21 pm21 an21 cd21 ct21), sl21⟩) (c21 : PySem.W.codeIn K cd21 "_law_pairs" = true) (k21 : PySem.W.keepIn K (.ref f21) = true)
    {f22 : Addr} {od22 an22 : Option Addr} {sl22 : Array (Option Value)} {oc22 kV22 dc22 pm22 cd22 ct22 : Value}
    (a22 : PySem.W.nsIn K mainGlobals "_law_entry" = some (some (.ref f22))) (l22 : K.lookup f22 = some ⟨oc22, od22, .func (PySem.W.fnOf "_law_entry" "_law_entry" (defArgs s__law_entry) (defBody s__law_entry) (defScope s__law_entry) .none kV22 dc22 pm22 an22 cd22 ct22), sl22⟩) (c22 : PySem.W.codeIn K cd22 "_law_entry" = true) (k22 : PySem.W.keepIn K (.ref f22) = true)
    {f23 : Addr} {od23 an23 : Option Addr} {sl23 : Array (Option Value)} {oc23 kV23 dc23 pm23 cd23 ct23 : Value}
    (a23 : PySem.W.nsIn K mainGlobals "_law_papers" = some (some (.ref f23))) (l23 : K.lookup f23 = some ⟨oc23, od23, .func (PySem.W.fnOf "_law_papers" "_law_papers" (defArgs s__law_papers) (defBody s__law_papers) (defScope s__law_papers) .none kV23 dc23 pm23 an23 cd23 ct23), sl23⟩) (c23 : PySem.W.codeIn K cd23 "_law_papers" = true) (k23 : PySem.W.keepIn K (.ref f23) = true)
    {f24 : Addr} {od24 an24 : Option Addr} {sl24 : Array (Option Value)} {oc24 kV24 dc24 pm24 cd24 ct24 : Value}
    (a24 : PySem.W.nsIn K mainGlobals "_law_line" = some (some (.ref f24))) (l24 : K.lookup f24 = some ⟨oc24, od24, .func (PySem.W.fnOf "_law_line" "_law_line" (defArgs s__law_line) (defBody s__law_line) (defScope s__law_line) .none kV24 dc24 pm24 an24 cd24 ct24), sl24⟩) (c24 : PySem.W.codeIn K cd24 "_law_line" = true) (k24 : PySem.W.keepIn K (.ref f24) = true)
    {f25 : Addr} {od25 an25 : Option Addr} {sl25 : Array (Option Value)} {oc25 kV25 dc25 pm25 cd25 ct25 : Value}
    (a25 : PySem.W.nsIn K mainGlobals "_law_text" = some (some (.ref f25))) (l25 : K.lookup f25 = some ⟨oc25, od25, .func (PySem.W.fnOf "_law_text" "_law_text" (defArgs s__law_text) (defBody s__law_text) (defScope s__law_text) .none kV25 dc25 pm25 an25 cd25 ct25), sl25⟩) (c25 : PySem.W.codeIn K cd25 "_law_text" = true) (k25 : PySem.W.keepIn K (.ref f25) = true)
    {f26 : Addr} {od26 an26 : Option Addr} {sl26 : Array (Option Value)} {oc26 kV26 dc26 pm26 cd26 ct26 : Value}
    (a26 : PySem.W.nsIn K mainGlobals "_law_copy" = some (some (.ref f26))) (l26 : K.lookup f26 = some ⟨oc26, od26, .func (PySem.W.fnOf "_law_copy" "_law_copy" (defArgs s__law_copy) (defBody s__law_copy) (defScope s__law_copy) .none kV26 dc26 pm26 an26 cd26 ct26), sl26⟩) (c26 : PySem.W.codeIn K cd26 "_law_copy" = true) (k26 : PySem.W.keepIn K (.ref f26) = true)
    {f27 : Addr} {od27 an27 : Option Addr} {sl27 : Array (Option Value)} {oc27 kV27 dc27 pm27 cd27 ct27 : Value}
    (a27 : PySem.W.nsIn K mainGlobals "_law_alike" = some (some (.ref f27))) (l27 : K.lookup f27 = some ⟨oc27, od27, .func (PySem.W.fnOf "_law_alike" "_law_alike" (defArgs s__law_alike) (defBody s__law_alike) (defScope s__law_alike) .none kV27 dc27 pm27 an27 cd27 ct27), sl27⟩) (c27 : PySem.W.codeIn K cd27 "_law_alike" = true) (k27 : PySem.W.keepIn K (.ref f27) = true)
    {f28 : Addr} {od28 an28 : Option Addr} {sl28 : Array (Option Value)} {oc28 kV28 dc28 pm28 cd28 ct28 : Value}
    (a28 : PySem.W.nsIn K mainGlobals "_law_spoil" = some (some (.ref f28))) (l28 : K.lookup f28 = some ⟨oc28, od28, .func (PySem.W.fnOf "_law_spoil" "_law_spoil" (defArgs s__law_spoil) (defBody s__law_spoil) (defScope s__law_spoil) .none kV28 dc28 pm28 an28 cd28 ct28), sl28⟩) (c28 : PySem.W.codeIn K cd28 "_law_spoil" = true) (k28 : PySem.W.keepIn K (.ref f28) = true)
    {f29 : Addr} {od29 an29 : Option Addr} {sl29 : Array (Option Value)} {oc29 kV29 dc29 pm29 cd29 ct29 : Value}
    (a29 : PySem.W.nsIn K mainGlobals "_law_there_and_back" = some (some (.ref f29))) (l29 : K.lookup f29 = some ⟨oc29, od29, .func (PySem.W.fnOf "_law_there_and_back" "_law_there_and_back" (defArgs s__law_there_and_back) (defBody s__law_there_and_back) (defScope s__law_there_and_back) .none kV29 dc29 pm29 an29 cd29 ct29), sl29⟩) (c29 : PySem.W.codeIn K cd29 "_law_there_and_back" = true) (k29 : PySem.W.keepIn K (.ref f29) = true)
    {f30 : Addr} {od30 an30 : Option Addr} {sl30 : Array (Option Value)} {oc30 kV30 dc30 pm30 cd30 ct30 : Value}
    (a30 : PySem.W.nsIn K mainGlobals "law" = some (some (.ref f30))) (l30 : K.lookup f30 = some ⟨oc30, od30, .func (PySem.W.fnOf "law" "law" (defArgs s_law) (defBody s_law) (defScope s_law) .none kV30 dc30 pm30 an30 cd30 ct30), sl30⟩) (c30 : PySem.W.codeIn K cd30 "law" = true) (k30 : PySem.W.keepIn K (.ref f30) = true)
    (z0 : PySem.W.nsIn K mainGlobals "abs" = some none)
    (z1 : PySem.W.nsIn K mainGlobals "bool" = some none)
    (z2 : PySem.W.nsIn K mainGlobals "int" = some none)
    (z3 : PySem.W.nsIn K mainGlobals "isinstance" = some none)
    (z4 : PySem.W.nsIn K mainGlobals "len" = some none)
    (z5 : PySem.W.nsIn K mainGlobals "list" = some none)
    (z6 : PySem.W.nsIn K mainGlobals "min" = some none)
    (z7 : PySem.W.nsIn K mainGlobals "range" = some none)
    (z8 : PySem.W.nsIn K mainGlobals "str" = some none)
    (z9 : PySem.W.nsIn K mainGlobals "tuple" = some none)
    {tk0 : Tok} (y0 : PySem.W.nsIn K mainGlobals "DIGITS" = some (some (.str "0123456789" tk0)))
    {tk1 : Tok} (y1 : PySem.W.nsIn K mainGlobals "LETTERS" = some (some (.str "abcdefghijklmnopqrstuvwxyz" tk1)))
    {tk2 : Tok} (y2 : PySem.W.nsIn K mainGlobals "LONGEST_NAME" = some (some (.int 12 tk2)))
    {tk3 : Tok} (y3 : PySem.W.nsIn K mainGlobals "MOST_DIGITS" = some (some (.int 5 tk3)))
    {tk4 : Tok} (y4 : PySem.W.nsIn K mainGlobals "SIGNS" = some (some (.str "abcdefghijklmnopqrstuvwxyz0123456789" tk4)))
    : ∃ fd : FuncData, (∀ (s : Shared) (v : Value), BindsTo s fd ⟨[v], []⟩ [("script", v)]) ∧ ∀ base : Heap, K.In base → base.Ns mainGlobals mg → FnOk l.prog w K mg base (L2.CX l.prog w) 12 fa fd ["script"] (spD 1 K fn_law) := by
  have e := hfa.symm.trans (PySem.W.mg_of X G a30)
  cases e
  have F0 := fun_mk (st := s_is_name) l0 c0 k0
  have F1 := fun_mk (st := s_item_line) l1 c1 k1
  have F2 := fun_mk (st := s_triple_lines) l2 c2 k2
  have F3 := fun_mk (st := s_pair_lines) l3 c3 k3
  have F4 := fun_mk (st := s_entry_lines) l4 c4 k4
  have F5 := fun_mk (st := s_write_paper) l5 c5 k5
  have F6 := fun_mk (st := s_is_number) l6 c6 k6
  have F7 := fun_mk (st := s_words_behind) l7 c7 k7
  have F8 := fun_mk (st := s_read_names) l8 c8 k8
  have F9 := fun_mk (st := s_read_numbers) l9 c9 k9
  have F10 := fun_mk (st := s_read_triple) l10 c10 k10
  have F11 := fun_mk (st := s_read_pair) l11 c11 k11
  have F12 := fun_mk (st := s_read_entries) l12 c12 k12
  have F13 := fun_mk (st := s_read_paper) l13 c13 k13
  have F14 := fun_mk (st := s__law_draw) l14 c14 k14
  have F15 := fun_mk (st := s__law_is_number) l15 c15 k15
  have F16 := fun_mk (st := s__law_word) l16 c16 k16
  have F17 := fun_mk (st := s__law_amount) l17 c17 k17
  have F18 := fun_mk (st := s__law_names) l18 c18 k18
  have F19 := fun_mk (st := s__law_amounts) l19 c19 k19
  have F20 := fun_mk (st := s__law_triples) l20 c20 k20
  have F21 := fun_mk (st := s__law_pairs) l21 c21 k21
  have F22 := fun_mk (st := s__law_entry) l22 c22 k22
  have F23 := fun_mk (st := s__law_papers) l23 c23 k23
  have F24 := fun_mk (st := s__law_line) l24 c24 k24
  have F25 := fun_mk (st := s__law_text) l25 c25 k25
  have F26 := fun_mk (st := s__law_copy) l26 c26 k26
  have F27 := fun_mk (st := s__law_alike) l27 c27 k27
  have F28 := fun_mk (st := s__law_spoil) l28 c28 k28
  have F29 := fun_mk (st := s__law_there_and_back) l29 c29 k29
  have F30 := fun_mk (st := s_law) l30 c30 k30
  let T : Txt K mg := {
    a_is_name := f0, fd_is_name := _, F_is_name := F0, m_is_name := PySem.W.mg_of X G a0, b_is_name := F0.binds (ps := ["text"]) fun _ _ _ _ _ _ us hl => match us, hl with | [_], _ => rfl,
    a_item_line := f1, fd_item_line := _, F_item_line := F1, m_item_line := PySem.W.mg_of X G a1, b_item_line := F1.binds (ps := ["first", "items"]) fun _ _ _ _ _ _ us hl => match us, hl with | [_, _], _ => rfl,
    a_triple_lines := f2, fd_triple_lines := _, F_triple_lines := F2, m_triple_lines := PySem.W.mg_of X G a2, b_triple_lines := F2.binds (ps := ["movement"]) fun _ _ _ _ _ _ us hl => match us, hl with | [_], _ => rfl,
    a_pair_lines := f3, fd_pair_lines := _, F_pair_lines := F3, m_pair_lines := PySem.W.mg_of X G a3, b_pair_lines := F3.binds (ps := ["cut"]) fun _ _ _ _ _ _ us hl => match us, hl with | [_], _ => rfl,
    a_entry_lines := f4, fd_entry_lines := _, F_entry_lines := F4, m_entry_lines := PySem.W.mg_of X G a4, b_entry_lines := F4.binds (ps := ["entry"]) fun _ _ _ _ _ _ us hl => match us, hl with | [_], _ => rfl,
    a_write_paper := f5, fd_write_paper := _, F_write_paper := F5, m_write_paper := PySem.W.mg_of X G a5, b_write_paper := F5.binds (ps := ["paper"]) fun _ _ _ _ _ _ us hl => match us, hl with | [_], _ => rfl,
    a_is_number := f6, fd_is_number := _, F_is_number := F6, m_is_number := PySem.W.mg_of X G a6, b_is_number := F6.binds (ps := ["word"]) fun _ _ _ _ _ _ us hl => match us, hl with | [_], _ => rfl,
    a_words_behind := f7, fd_words_behind := _, F_words_behind := F7, m_words_behind := PySem.W.mg_of X G a7, b_words_behind := F7.binds (ps := ["lines", "at", "first"]) fun _ _ _ _ _ _ us hl => match us, hl with | [_, _, _], _ => rfl,
    a_read_names := f8, fd_read_names := _, F_read_names := F8, m_read_names := PySem.W.mg_of X G a8, b_read_names := F8.binds (ps := ["lines", "at"]) fun _ _ _ _ _ _ us hl => match us, hl with | [_, _], _ => rfl,
    a_read_numbers := f9, fd_read_numbers := _, F_read_numbers := F9, m_read_numbers := PySem.W.mg_of X G a9, b_read_numbers := F9.binds (ps := ["lines", "at", "first"]) fun _ _ _ _ _ _ us hl => match us, hl with | [_, _, _], _ => rfl,
    a_read_triple := f10, fd_read_triple := _, F_read_triple := F10, m_read_triple := PySem.W.mg_of X G a10, b_read_triple := F10.binds (ps := ["lines", "at"]) fun _ _ _ _ _ _ us hl => match us, hl with | [_, _], _ => rfl,
    a_read_pair := f11, fd_read_pair := _, F_read_pair := F11, m_read_pair := PySem.W.mg_of X G a11, b_read_pair := F11.binds (ps := ["lines", "at"]) fun _ _ _ _ _ _ us hl => match us, hl with | [_, _], _ => rfl,
    a_read_entries := f12, fd_read_entries := _, F_read_entries := F12, m_read_entries := PySem.W.mg_of X G a12, b_read_entries := F12.binds (ps := ["lines"]) fun _ _ _ _ _ _ us hl => match us, hl with | [_], _ => rfl,
    a_read_paper := f13, fd_read_paper := _, F_read_paper := F13, m_read_paper := PySem.W.mg_of X G a13, b_read_paper := F13.binds (ps := ["text"]) fun _ _ _ _ _ _ us hl => match us, hl with | [_], _ => rfl,
    a__law_draw := f14, fd__law_draw := _, F__law_draw := F14, m__law_draw := PySem.W.mg_of X G a14, b__law_draw := F14.binds (ps := ["script", "k", "size"]) fun _ _ _ _ _ _ us hl => match us, hl with | [_, _, _], _ => rfl,
    a__law_is_number := f15, fd__law_is_number := _, F__law_is_number := F15, m__law_is_number := PySem.W.mg_of X G a15, b__law_is_number := F15.binds (ps := ["value"]) fun _ _ _ _ _ _ us hl => match us, hl with | [_], _ => rfl,
    a__law_word := f16, fd__law_word := _, F__law_word := F16, m__law_word := PySem.W.mg_of X G a16, b__law_word := F16.binds (ps := ["script", "k"]) fun _ _ _ _ _ _ us hl => match us, hl with | [_, _], _ => rfl,
    a__law_amount := f17, fd__law_amount := _, F__law_amount := F17, m__law_amount := PySem.W.mg_of X G a17, b__law_amount := F17.binds (ps := ["script", "k"]) fun _ _ _ _ _ _ us hl => match us, hl with | [_, _], _ => rfl,
    a__law_names := f18, fd__law_names := _, F__law_names := F18, m__law_names := PySem.W.mg_of X G a18, b__law_names := F18.binds (ps := ["script", "k", "count", "pool"]) fun _ _ _ _ _ _ us hl => match us, hl with | [_, _, _, _], _ => rfl,
    a__law_amounts := f19, fd__law_amounts := _, F__law_amounts := F19, m__law_amounts := PySem.W.mg_of X G a19, b__law_amounts := F19.binds (ps := ["script", "k", "count"]) fun _ _ _ _ _ _ us hl => match us, hl with | [_, _, _], _ => rfl,
    a__law_triples := f20, fd__law_triples := _, F__law_triples := F20, m__law_triples := PySem.W.mg_of X G a20, b__law_triples := F20.binds (ps := ["script", "k", "count", "pool"]) fun _ _ _ _ _ _ us hl => match us, hl with | [_, _, _, _], _ => rfl,
    a__law_pairs := f21, fd__law_pairs := _, F__law_pairs := F21, m__law_pairs := PySem.W.mg_of X G a21, b__law_pairs := F21.binds (ps := ["script", "k", "count", "pool"]) fun _ _ _ _ _ _ us hl => match us, hl with | [_, _, _, _], _ => rfl,
    a__law_entry := f22, fd__law_entry := _, F__law_entry := F22, m__law_entry := PySem.W.mg_of X G a22, b__law_entry := F22.binds (ps := ["script", "k", "pool", "times"]) fun _ _ _ _ _ _ us hl => match us, hl with | [_, _, _, _], _ => rfl,
    a__law_papers := f23, fd__law_papers := _, F__law_papers := F23, m__law_papers := PySem.W.mg_of X G a23, b__law_papers := F23.binds (ps := ["script"]) fun _ _ _ _ _ _ us hl => match us, hl with | [_], _ => rfl,
    a__law_line := f24, fd__law_line := _, F__law_line := F24, m__law_line := PySem.W.mg_of X G a24, b__law_line := F24.binds (ps := ["first", "items"]) fun _ _ _ _ _ _ us hl => match us, hl with | [_, _], _ => rfl,
    a__law_text := f25, fd__law_text := _, F__law_text := F25, m__law_text := PySem.W.mg_of X G a25, b__law_text := F25.binds (ps := ["paper"]) fun _ _ _ _ _ _ us hl => match us, hl with | [_], _ => rfl,
    a__law_copy := f26, fd__law_copy := _, F__law_copy := F26, m__law_copy := PySem.W.mg_of X G a26, b__law_copy := F26.binds (ps := ["value"]) fun _ _ _ _ _ _ us hl => match us, hl with | [_], _ => rfl,
    a__law_alike := f27, fd__law_alike := _, F__law_alike := F27, m__law_alike := PySem.W.mg_of X G a27, b__law_alike := F27.binds (ps := ["value", "due"]) fun _ _ _ _ _ _ us hl => match us, hl with | [_, _], _ => rfl,
    a__law_spoil := f28, fd__law_spoil := _, F__law_spoil := F28, m__law_spoil := PySem.W.mg_of X G a28, b__law_spoil := F28.binds (ps := ["paper"]) fun _ _ _ _ _ _ us hl => match us, hl with | [_], _ => rfl,
    a__law_there_and_back := f29, fd__law_there_and_back := _, F__law_there_and_back := F29, m__law_there_and_back := PySem.W.mg_of X G a29, b__law_there_and_back := F29.binds (ps := ["paper"]) fun _ _ _ _ _ _ us hl => match us, hl with | [_], _ => rfl,
    a_law := fa, fd_law := _, F_law := F30, m_law := PySem.W.mg_of X G a30, b_law := F30.binds (ps := ["script"]) fun _ _ _ _ _ _ us hl => match us, hl with | [_], _ => rfl,
    n_abs := PySem.W.mg_none_of X G z0,
    n_bool := PySem.W.mg_none_of X G z1,
    n_int := PySem.W.mg_none_of X G z2,
    n_isinstance := PySem.W.mg_none_of X G z3,
    n_len := PySem.W.mg_none_of X G z4,
    n_list := PySem.W.mg_none_of X G z5,
    n_min := PySem.W.mg_none_of X G z6,
    n_range := PySem.W.mg_none_of X G z7,
    n_str := PySem.W.mg_none_of X G z8,
    n_tuple := PySem.W.mg_none_of X G z9,
    c_DIGITS := ⟨_, PySem.W.mg_of X G y0, ⟨_, rfl⟩⟩,
    c_LETTERS := ⟨_, PySem.W.mg_of X G y1, ⟨_, rfl⟩⟩,
    c_LONGEST_NAME := ⟨_, PySem.W.mg_of X G y2, ⟨_, rfl⟩⟩,
    c_MOST_DIGITS := ⟨_, PySem.W.mg_of X G y3, ⟨_, rfl⟩⟩,
    c_SIGNS := ⟨_, PySem.W.mg_of X G y4, ⟨_, rfl⟩⟩ }
  exact ⟨T.fd_law, fun s v => .of_eq rfl, fun base _ _ => ok_law T⟩
theorem ints_rep {K : PySem.W.Frag} {G : Hp} : ∀ ns : List Int, RepL K G (ns.map D.int) (ns.map V.int)
  | [] => by simp [RepL]
  | n :: ns => by
    simp only [List.map_cons, RepL, Rep]
    exact ⟨.int n, _, rfl, rfl, ints_rep ns⟩
theorem sp_law (K : PySem.W.Frag) (H : Hp) (a : Addr) (ns : List Int) (hS : SqL K H a (ns.map V.int)) : spD 1 K fn_law [.ref a] H (fun v _ => v = .bl true) fun _ _ _ => False := by
  refine ⟨H, [scr ns], rfl, Same.refl H, ?_, ?_⟩
  · simp only [RepL, scr, Rep]
    exact ⟨.ref a, [], rfl, ⟨a, _, rfl, hS, ints_rep ns⟩, rfl⟩
  · rw [law_ok ns]
    intro v G' H' fp g o c
    simp only [Own, Rep] at o
    exact o.2

theorem walk {l : PySem.W.OpenLaw} {q : Program} {loose : List Str} {XP : (Str → Option Value) → Heap → Prop} {YP : World → Heap → Prop} {d : DefRec} {K : Params → PySem.W.Frag} (hn : l.most = some 63) (hdf : d.params.defaults = [])
    (hY : ∀ (w : World) (h : Heap), YP w h → (K w.params).In h)
    (F : ∀ (w : World) (mg : Str → Option Value) (fa : Addr) (h : Heap), (K w.params).In h → h.Ns mainGlobals mg → mg d.name = some (.ref fa) →
      ∃ fd : FuncData, (∀ (s : Shared) (u : Value), BindsTo s fd ⟨[u], []⟩ [("script", u)]) ∧ ∀ base : Heap, (K w.params).In base → base.Ns mainGlobals mg → FnOk l.prog w (K w.params) mg base (L2.CX l.prog w) 12 fa fd ["script"] (spD 1 (K w.params) fn_law)) :
    PySem.W.WalkO q loose XP YP l.row.toRowW d [] (fun f vs => PySem.call f vs) :=
  L2.walk_of (n := 63) (k := 12) (x := "script") (CX := fun w => L2.CX l.prog w) (sp := fun w => spD 1 (K w.params) fn_law) hn (by decide) hdf ⟨rfl, by decide, by decide⟩ hY F (fun w H a ns _ _ hS => sp_law _ H a ns hS) fun _ _ _ _ _ z => by obtain ⟨_, _, _, _, _, _, _, _, _, _, _, _, z⟩ := z; exact z
end K48
end DV
open PySem PySem.W PyProof.Rows
set_option maxRecDepth 100000 in
set_option maxHeartbeats 0 in
theorem PySem.Challenge.cw_everybodyout_k48_paper_text_there_and_ba_holds : PySem.Challenge.rw_everybodyout_k48_paper_text_there_and_ba.Holds := by
  w_on; o_law; k_head; (case hw => w_witness2)
  k_fill
  refine DV.K48.walk (l := PySem.Challenge.rw_everybodyout_k48_paper_text_there_and_ba) rfl rfl (fun w h Y => PySem.W.kIn_of Y) ?F
  case F =>
    intro w mg fa h KX G hmg
    refine' DV.K48.all_mk KX G hmg ?a0 ?l0 ?c0 ?k0 ?a1 ?l1 ?c1 ?k1 ?a2 ?l2 ?c2 ?k2 ?a3 ?l3 ?c3 ?k3 ?a4 ?l4 ?c4 ?k4 ?a5 ?l5 ?c5 ?k5 ?a6 ?l6 ?c6 ?k6 ?a7 ?l7 ?c7 ?k7 ?a8 ?l8 ?c8 ?k8 ?a9 ?l9 ?c9 ?k9 ?a10 ?l10 ?c10 ?k10 ?a11 ?l11 ?c11 ?k11 ?a12 ?l12 ?c12 ?k12 ?a13 ?l13 ?c13 ?k13 ?a14 ?l14 ?c14 ?k14 ?a15 ?l15 ?c15 ?k15 ?a16 ?l16 ?c16 ?k16 ?a17 ?l17 ?c17 ?k17 ?a18 ?l18 ?c18 ?k18 ?a19 ?l19 ?c19 ?k19 ?a20 ?l20 ?c20 ?k20 ?a21 ?l21 ?c21 ?k21 ?a22 ?l22 ?c22 ?k22 ?a23 ?l23 ?c23 ?k23 ?a24 ?l24 ?c24 ?k24 ?a25 ?l25 ?c25 ?k25 ?a26 ?l26 ?c26 ?k26 ?a27 ?l27 ?c27 ?k27 ?a28 ?l28 ?c28 ?k28 ?a29 ?l29 ?c29 ?k29 ?a30 ?l30 ?c30 ?k30 ?z0 ?z1 ?z2 ?z3 ?z4 ?z5 ?z6 ?z7 ?z8 ?z9 ?y0 ?y1 ?y2 ?y3 ?y4
    (case a0 => k_is)
    (case l0 => k_is)
    (case c0 => k_is)
    (case k0 => k_is)
    (case a1 => k_is)
    (case l1 => k_is)
    (case c1 => k_is)
    (case k1 => k_is)
    (case a2 => k_is)
    (case l2 => k_is)
    (case c2 => k_is)
    (case k2 => k_is)
    (case a3 => k_is)
    (case l3 => k_is)
    (case c3 => k_is)
    (case k3 => k_is)
    (case a4 => k_is)
    (case l4 => k_is)
    (case c4 => k_is)
    (case k4 => k_is)
    (case a5 => k_is)
    (case l5 => k_is)
    (case c5 => k_is)
    (case k5 => k_is)
    (case a6 => k_is)
    (case l6 => k_is)
    (case c6 => k_is)
    (case k6 => k_is)
    (case a7 => k_is)
    (case l7 => k_is)
    (case c7 => k_is)
    (case k7 => k_is)
    (case a8 => k_is)
    (case l8 => k_is)
    (case c8 => k_is)
    (case k8 => k_is)
    (case a9 => k_is)
    (case l9 => k_is)
    (case c9 => k_is)
    (case k9 => k_is)
    (case a10 => k_is)
    (case l10 => k_is)
    (case c10 => k_is)
    (case k10 => k_is)
    (case a11 => k_is)
    (case l11 => k_is)
    (case c11 => k_is)
    (case k11 => k_is)
    (case a12 => k_is)
    (case l12 => k_is)
    (case c12 => k_is)
    (case k12 => k_is)
    (case a13 => k_is)
    (case l13 => k_is)
    (case c13 => k_is)
    (case k13 => k_is)
    (case a14 => k_is)
    (case l14 => k_is)
    (case c14 => k_is)
    (case k14 => k_is)
    (case a15 => k_is)
    (case l15 => k_is)
    (case c15 => k_is)
    (case k15 => k_is)
    (case a16 => k_is)
    (case l16 => k_is)
    (case c16 => k_is)
    (case k16 => k_is)
    (case a17 => k_is)
    (case l17 => k_is)
    (case c17 => k_is)
    (case k17 => k_is)
    (case a18 => k_is)
    (case l18 => k_is)
    (case c18 => k_is)
    (case k18 => k_is)
    (case a19 => k_is)
    (case l19 => k_is)
    (case c19 => k_is)
    (case k19 => k_is)
    (case a20 => k_is)
    (case l20 => k_is)
    (case c20 => k_is)
    (case k20 => k_is)
    (case a21 => k_is)
    (case l21 => k_is)
    (case c21 => k_is)
    (case k21 => k_is)
    (case a22 => k_is)
    (case l22 => k_is)
    (case c22 => k_is)
    (case k22 => k_is)
    (case a23 => k_is)
    (case l23 => k_is)
    (case c23 => k_is)
    (case k23 => k_is)
    (case a24 => k_is)
    (case l24 => k_is)
    (case c24 => k_is)
    (case k24 => k_is)
    (case a25 => k_is)
    (case l25 => k_is)
    (case c25 => k_is)
    (case k25 => k_is)
    (case a26 => k_is)
    (case l26 => k_is)
    (case c26 => k_is)
    (case k26 => k_is)
    (case a27 => k_is)
    (case l27 => k_is)
    (case c27 => k_is)
    (case k27 => k_is)
    (case a28 => k_is)
    (case l28 => k_is)
    (case c28 => k_is)
    (case k28 => k_is)
    (case a29 => k_is)
    (case l29 => k_is)
    (case c29 => k_is)
    (case k29 => k_is)
    (case a30 => k_is)
    (case l30 => k_is)
    (case c30 => k_is)
    (case k30 => k_is)
    (case z0 => k_is)
    (case z1 => k_is)
    (case z2 => k_is)
    (case z3 => k_is)
    (case z4 => k_is)
    (case z5 => k_is)
    (case z6 => k_is)
    (case z7 => k_is)
    (case z8 => k_is)
    (case z9 => k_is)
    (case y0 => k_is)
    (case y1 => k_is)
    (case y2 => k_is)
    (case y3 => k_is)
    (case y4 => k_is)
