import PyProof.Rows.All
import Wide.All
import OpenK.AllK
import Wide.FinOn
import HandS.ForMost
import HandS.Conv
import HandS.IsInst
import HandS.Strs
import HandS.TupAny
import HandS.Flow
import HandS.Deep
import HandS.Zip
import HandS.Wide
import HandS.SetKeys
import HandS.OwnEq
import HandS.SetFor
import HandS.TupLen
import HandS.Style
import PyProof.InstNe
import PySem.Challenge.RW_eventies_k65_whole_strongly_even_webs_ju
set_option Elab.async false
set_option linter.all false
set_option maxRecDepth 100000
set_option maxHeartbeats 4000000
namespace DL
open PySem L2

/-! ### data trees and how a value stands for one -/
inductive D where
  | non
  | bl (b : Bool)
  | int (i : Int)
  | str (s : Str)
  | tup (ds : List D)
  | lst (ds : List D)
  | dK (ks : List Key) (ds : List D)
  | dT (ks : List (List Key)) (ds : List D)
  | ins (c : Nat) (fs : List Str) (ds : List D)
  | pen
  | ty (n : String)
  | cls (c : Nat)

/-- where the law's pen stands, and its row of cells -/
structure PA where
  a : Addr
  c : Addr
structure Gm where
  K : PySem.W.Frag
  cl : Nat → Addr
  pn : PA
abbrev Gm.pa (G : Gm) : Addr := G.pn.a
abbrev Gm.ca (G : Gm) : Addr := G.pn.c

mutual
def Rep (G : Gm) (H : Hp) : D → V → Prop
  | .non, v => v = .non
  | .bl b, v => v = .bl b
  | .int i, v => v = .int i
  | .str s, v => v = .str s
  | .tup ds, v => ∃ a vs, v = .ref a ∧ H a = some (.tup vs) ∧ Reps G H ds vs
  | .lst ds, v => ∃ a vs, v = .ref a ∧ H a = some (.lst vs) ∧ Reps G H ds vs
  | .dK ks ds, v => ∃ a vs, v = .ref a ∧ H a = some (.dK (ks.zip vs)) ∧ ks.length = vs.length ∧ Reps G H ds vs
  | .dT ks ds, v => ∃ a vs, v = .ref a ∧ H a = some (.dT (ks.zip vs)) ∧ ks.length = vs.length ∧ Reps G H ds vs
  | .ins c fs ds, v => ∃ a dx vs, v = .ref a ∧ H a = some (.ins (G.cl c) dx (fs.zip vs)) ∧ fs.length = vs.length ∧ Reps G H ds vs
  | .pen, v => v = .ref G.pa
  | .ty n, v => v = .ty n
  | .cls c, v => v = .ref (G.cl c)
def Reps (G : Gm) (H : Hp) : List D → List V → Prop
  | [], vs => vs = []
  | d :: ds, vs => ∃ v r, vs = v :: r ∧ Rep G H d v ∧ Reps G H ds r
end

/-- owned things: what stands at addresses of this frame alone -/
inductive M where
  | leaf (d : D)
  | lst (ms : List M)
  | dK (ks : List Key) (ms : List M)
  | dT (ks : List (List Key)) (ms : List M)
  | ins (c : Nat) (fs : List Str) (ms : List M)

mutual
def RepM (G : Gm) (H0 H : Hp) : M → V → List Addr → Prop
  | .leaf d, v, F => Rep G H0 d v ∧ F = []
  | .lst ms, v, F => ∃ p vs F', v = .ref p ∧ F = p :: F' ∧ H0 p = none ∧ p ≠ G.pa ∧ H p = some (.lst vs) ∧ RepMs G H0 H ms vs F'
  | .dK ks ms, v, F => ∃ p vs F', v = .ref p ∧ F = p :: F' ∧ H0 p = none ∧ p ≠ G.pa ∧ H p = some (.dK (ks.zip vs)) ∧ ks.length = vs.length ∧ RepMs G H0 H ms vs F'
  | .dT ks ms, v, F => ∃ p vs F', v = .ref p ∧ F = p :: F' ∧ H0 p = none ∧ p ≠ G.pa ∧ H p = some (.dT (ks.zip vs)) ∧ ks.length = vs.length ∧ RepMs G H0 H ms vs F'
  | .ins c fs ms, v, F => ∃ p dx vs F', v = .ref p ∧ F = p :: F' ∧ H0 p = none ∧ p ≠ G.pa ∧ H p = some (.ins (G.cl c) dx (fs.zip vs)) ∧ fs.length = vs.length ∧ RepMs G H0 H ms vs F'
def RepMs (G : Gm) (H0 H : Hp) : List M → List V → List Addr → Prop
  | [], vs, F => vs = [] ∧ F = []
  | m :: ms, vs, F => ∃ v r F1 F2, vs = v :: r ∧ F = F1 ++ F2 ∧ RepM G H0 H m v F1 ∧ RepMs G H0 H ms r F2
end

mutual
def M.toD : M → D
  | .leaf d => d
  | .lst ms => .lst (Ms.toDs ms)
  | .dK ks ms => .dK ks (Ms.toDs ms)
  | .dT ks ms => .dT ks (Ms.toDs ms)
  | .ins c fs ms => .ins c fs (Ms.toDs ms)
def Ms.toDs : List M → List D
  | [] => []
  | m :: ms => m.toD :: Ms.toDs ms
end

/-! ### heaps -/
def Ex (H H' : Hp) : Prop := ∀ b o, H b = some o → H' b = some o
def hid (G : Gm) (H : Hp) : Hp := fun b => if b = G.pa then none else H b
theorem Ex.refl (H : Hp) : Ex H H := fun _ _ h => h
theorem Ex.trans {H H1 H2 : Hp} (a : Ex H H1) (b : Ex H1 H2) : Ex H H2 := fun x o h => b x o (a x o h)
theorem hid_ne {G : Gm} {H : Hp} {b : Addr} (h : b ≠ G.pa) : hid G H b = H b := by unfold hid; rw [if_neg h]
theorem hid_pa {G : Gm} {H : Hp} : hid G H G.pa = none := by unfold hid; rw [if_pos rfl]
theorem hid_some {G : Gm} {H : Hp} {b : Addr} {o : HO} (h : hid G H b = some o) : b ≠ G.pa ∧ H b = some o := by
  unfold hid at h
  by_cases e : b = G.pa
  · rw [if_pos e] at h; cases h
  · rw [if_neg e] at h; exact ⟨e, h⟩
theorem ex_hid {G : Gm} {H : Hp} : Ex (hid G H) H := fun _ _ h => (hid_some h).2

theorem ex_rd {H H' : Hp} {a : Addr} {u : HO} (e : Ex H H') (h : Rd H a u) : Rd H' a u := by
  rcases h with h | ⟨o, h⟩
  · exact Or.inl (e a _ h)
  · exact Or.inr ⟨o, e a _ h⟩
theorem ex_l {K : PySem.W.Frag} {H H' : Hp} {a : Addr} {xs : List V} (e : Ex H H') (h : SqL K H a xs) : SqL K H' a xs := by
  rcases h with h | h
  · exact Or.inl (ex_rd e h)
  · exact Or.inr h
theorem ex_t {K : PySem.W.Frag} {H H' : Hp} {a : Addr} {xs : List V} (e : Ex H H') (h : SqT K H a xs) : SqT K H' a xs := by
  rcases h with h | h
  · exact Or.inl (ex_rd e h)
  · exact Or.inr h

mutual
theorem Rep.mono {G : Gm} {H H' : Hp} (e : Ex H H') : ∀ {d : D} {v : V}, Rep G H d v → Rep G H' d v
  | .non, _, h => by simpa only [Rep] using h
  | .bl _, _, h => by simpa only [Rep] using h
  | .int _, _, h => by simpa only [Rep] using h
  | .str _, _, h => by simpa only [Rep] using h
  | .tup _, _, h => by
    simp only [Rep] at h ⊢
    obtain ⟨a, vs, h1, h2, h3⟩ := h
    exact ⟨a, vs, h1, e _ _ h2, Reps.mono e h3⟩
  | .lst _, _, h => by
    simp only [Rep] at h ⊢
    obtain ⟨a, vs, h1, h2, h3⟩ := h
    exact ⟨a, vs, h1, e _ _ h2, Reps.mono e h3⟩
  | .dK _ _, _, h => by
    simp only [Rep] at h ⊢
    obtain ⟨a, vs, h1, h2, h3, h4⟩ := h
    exact ⟨a, vs, h1, e _ _ h2, h3, Reps.mono e h4⟩
  | .dT _ _, _, h => by
    simp only [Rep] at h ⊢
    obtain ⟨a, vs, h1, h2, h3, h4⟩ := h
    exact ⟨a, vs, h1, e _ _ h2, h3, Reps.mono e h4⟩
  | .ins _ _ _, _, h => by
    simp only [Rep] at h ⊢
    obtain ⟨a, dx, vs, h1, h2, h3, h4⟩ := h
    exact ⟨a, dx, vs, h1, e _ _ h2, h3, Reps.mono e h4⟩
  | .pen, _, h => by simpa only [Rep] using h
  | .ty _, _, h => by simpa only [Rep] using h
  | .cls _, _, h => by simpa only [Rep] using h
theorem Reps.mono {G : Gm} {H H' : Hp} (e : Ex H H') : ∀ {ds : List D} {vs : List V}, Reps G H ds vs → Reps G H' ds vs
  | [], _, h => by simpa only [Reps] using h
  | _ :: _, _, h => by
    simp only [Reps] at h ⊢
    obtain ⟨v, r, h1, h2, h3⟩ := h
    exact ⟨v, r, h1, Rep.mono e h2, Reps.mono e h3⟩
end

/-- H0, H grew to H0', H' and what this frame owns (F) may have changed -/
structure Step (G : Gm) (F : List Addr) (H0 H : Hp) (F' : List Addr) (H0' H' : Hp) : Prop where
  fz : Ex H0 H0'
  keep : ∀ b o, b ∉ F → b ≠ G.pa → H b = some o → H' b = some o
  inn : Ex H0' (hid G H')
  new : ∀ b, b ∉ F → H b ≠ none → H0 b = none → H0' b = none
  frs : ∀ b ∈ F', b ∈ F ∨ H b = none
/-- .. nothing owned changed -/
structure Pure (G : Gm) (H0 H H0' H' : Hp) : Prop where
  fz : Ex H0 H0'
  all : Ex (hid G H) (hid G H')
  inn : Ex H0' (hid G H')
  new : ∀ b, H b ≠ none → H0 b = none → H0' b = none

theorem Pure.refl {G : Gm} {H0 H : Hp} (h : Ex H0 (hid G H)) : Pure G H0 H H0 H := ⟨Ex.refl _, Ex.refl _, h, fun _ _ z => z⟩
theorem Pure.trans {G : Gm} {H0 H H0' H' H0'' H'' : Hp} (pa : H G.pa ≠ none → H' G.pa ≠ none) (a : Pure G H0 H H0' H') (b : Pure G H0' H' H0'' H'') : Pure G H0 H H0'' H'' :=
  ⟨a.fz.trans b.fz, a.all.trans b.all, b.inn, fun c h1 h2 => b.new c (by
    by_cases e : c = G.pa
    · subst e; exact pa h1
    · intro z
      cases q : H c with
      | none => exact h1 q
      | some o =>
        have := a.all c o (by rw [hid_ne e]; exact q)
        rw [hid_ne e, z] at this; cases this) (a.new c h1 h2)⟩
theorem Pure.step {G : Gm} {H0 H H0' H' : Hp} {F : List Addr} (a : Pure G H0 H H0' H') : Step G F H0 H F H0' H' :=
  ⟨a.fz, fun b o _ hb h => by
    have := a.all b o (by rw [hid_ne hb]; exact h)
    rw [hid_ne hb] at this; exact this, a.inn, fun b _ h1 h2 => a.new b h1 h2, fun b h => Or.inl h⟩
theorem Step.trans {G : Gm} {F F' F'' : List Addr} {H0 H H0' H' H0'' H'' : Hp} (pf : H G.pa ≠ none → H' G.pa ≠ none) (a : Step G F H0 H F' H0' H') (b : Step G F' H0' H' F'' H0'' H'') : Step G F H0 H F'' H0'' H'' := by
  have nF : ∀ c o, c ∉ F → H c = some o → c ∉ F' := fun c o h1 h2 h3 => by
    rcases a.frs c h3 with z | z
    · exact h1 z
    · rw [h2] at z; cases z
  refine ⟨a.fz.trans b.fz, fun c o h1 h2 h3 => b.keep c o (nF c o h1 h3) h2 (a.keep c o h1 h2 h3), b.inn, fun c h1 h2 h3 => ?_, fun c h => ?_⟩
  · cases q : H c with
    | none => exact absurd q h2
    | some o =>
      refine b.new c (nF c o h1 q) ?_ (a.new c h1 h2 h3)
      by_cases e : c = G.pa
      · subst e; exact pf h2
      · rw [a.keep c o h1 e q]; intro z; cases z
  · rcases b.frs c h with z | z
    · exact a.frs c z
    · by_cases hc : c ∈ F
      · exact Or.inl hc
      · right
        cases q : H c with
        | none => rfl
        | some o =>
          by_cases e : c = G.pa
          · subst e; exact absurd z (pf (by rw [q]; intro z; cases z))
          · rw [a.keep c o hc e q] at z; cases z

mutual
theorem RepM.keep {G : Gm} {H0 H H0' H' : Hp} (fz : Ex H0 H0') : ∀ {m : M} {v : V} {F : List Addr}, RepM G H0 H m v F → (∀ b ∈ F, ∀ o, b ≠ G.pa → H b = some o → H' b = some o) → (∀ b ∈ F, H b ≠ none → H0 b = none → H0' b = none) → RepM G H0' H' m v F
  | .leaf _, _, _, h, _, _ => by
    simp only [RepM] at h ⊢
    exact ⟨Rep.mono fz h.1, h.2⟩
  | .lst _, _, _, h, k, n => by
    simp only [RepM] at h ⊢
    obtain ⟨p, vs, F', h1, h2, h3, h4, h5, h6⟩ := h
    subst h2
    exact ⟨p, vs, F', h1, rfl, n p (by simp) (by rw [h5]; intro z; cases z) h3, h4, k p (by simp) _ h4 h5, RepMs.keep fz h6 (fun b hb => k b (by simp [hb])) (fun b hb => n b (by simp [hb]))⟩
  | .dK _ _, _, _, h, k, n => by
    simp only [RepM] at h ⊢
    obtain ⟨p, vs, F', h1, h2, h3, h4, h5, h6, h7⟩ := h
    subst h2
    exact ⟨p, vs, F', h1, rfl, n p (by simp) (by rw [h5]; intro z; cases z) h3, h4, k p (by simp) _ h4 h5, h6, RepMs.keep fz h7 (fun b hb => k b (by simp [hb])) (fun b hb => n b (by simp [hb]))⟩
  | .dT _ _, _, _, h, k, n => by
    simp only [RepM] at h ⊢
    obtain ⟨p, vs, F', h1, h2, h3, h4, h5, h6, h7⟩ := h
    subst h2
    exact ⟨p, vs, F', h1, rfl, n p (by simp) (by rw [h5]; intro z; cases z) h3, h4, k p (by simp) _ h4 h5, h6, RepMs.keep fz h7 (fun b hb => k b (by simp [hb])) (fun b hb => n b (by simp [hb]))⟩
  | .ins _ _ _, _, _, h, k, n => by
    simp only [RepM] at h ⊢
    obtain ⟨p, dx, vs, F', h1, h2, h3, h4, h5, h6, h7⟩ := h
    subst h2
    exact ⟨p, dx, vs, F', h1, rfl, n p (by simp) (by rw [h5]; intro z; cases z) h3, h4, k p (by simp) _ h4 h5, h6, RepMs.keep fz h7 (fun b hb => k b (by simp [hb])) (fun b hb => n b (by simp [hb]))⟩
theorem RepMs.keep {G : Gm} {H0 H H0' H' : Hp} (fz : Ex H0 H0') : ∀ {ms : List M} {vs : List V} {F : List Addr}, RepMs G H0 H ms vs F → (∀ b ∈ F, ∀ o, b ≠ G.pa → H b = some o → H' b = some o) → (∀ b ∈ F, H b ≠ none → H0 b = none → H0' b = none) → RepMs G H0' H' ms vs F
  | [], _, _, h, _, _ => by simpa only [RepMs] using h
  | _ :: _, _, _, h, k, n => by
    simp only [RepMs] at h ⊢
    obtain ⟨v, r, F1, F2, h1, h2, h3, h4⟩ := h
    subst h2
    exact ⟨v, r, F1, F2, h1, rfl, RepM.keep fz h3 (fun b hb => k b (by simp [hb])) (fun b hb => n b (by simp [hb])), RepMs.keep fz h4 (fun b hb => k b (by simp [hb])) (fun b hb => n b (by simp [hb]))⟩
end

/- an owned thing read as data, by the whole heap -/
mutual
theorem RepM.toD {G : Gm} {H0 H : Hp} (i0 : Ex H0 (hid G H)) : ∀ {m : M} {v : V} {F : List Addr}, RepM G H0 H m v F → Rep G (hid G H) m.toD v
  | .leaf _, _, _, h => by
    simp only [RepM] at h
    exact Rep.mono i0 h.1
  | .lst _, _, _, h => by
    simp only [RepM] at h
    obtain ⟨p, vs, F', h1, h2, h3, h4, h5, h6⟩ := h
    simp only [M.toD, Rep]
    exact ⟨p, vs, h1, by rw [hid_ne h4]; exact h5, RepMs.toDs i0 h6⟩
  | .dK _ _, _, _, h => by
    simp only [RepM] at h
    obtain ⟨p, vs, F', h1, h2, h3, h4, h5, h6, h7⟩ := h
    simp only [M.toD, Rep]
    exact ⟨p, vs, h1, by rw [hid_ne h4]; exact h5, h6, RepMs.toDs i0 h7⟩
  | .dT _ _, _, _, h => by
    simp only [RepM] at h
    obtain ⟨p, vs, F', h1, h2, h3, h4, h5, h6, h7⟩ := h
    simp only [M.toD, Rep]
    exact ⟨p, vs, h1, by rw [hid_ne h4]; exact h5, h6, RepMs.toDs i0 h7⟩
  | .ins _ _ _, _, _, h => by
    simp only [RepM] at h
    obtain ⟨p, dx, vs, F', h1, h2, h3, h4, h5, h6, h7⟩ := h
    simp only [M.toD, Rep]
    exact ⟨p, dx, vs, h1, by rw [hid_ne h4]; exact h5, h6, RepMs.toDs i0 h7⟩
theorem RepMs.toDs {G : Gm} {H0 H : Hp} (i0 : Ex H0 (hid G H)) : ∀ {ms : List M} {vs : List V} {F : List Addr}, RepMs G H0 H ms vs F → Reps G (hid G H) (Ms.toDs ms) vs
  | [], _, _, h => by
    simp only [RepMs] at h
    simp only [Ms.toDs, Reps]
    exact h.1
  | _ :: _, _, _, h => by
    simp only [RepMs] at h
    obtain ⟨v, r, F1, F2, h1, h2, h3, h4⟩ := h
    simp only [Ms.toDs, Reps]
    exact ⟨v, r, h1, RepM.toD i0 h3, RepMs.toDs i0 h4⟩
end

/-- the owned things of H are frozen: they join H0 -/
def join (H0 H : Hp) (F : List Addr) : Hp := fun b => if b ∈ F then H b else H0 b
theorem join_ex {G : Gm} {H0 H : Hp} {F : List Addr} (n : ∀ b ∈ F, H0 b = none) : Ex H0 (join H0 H F) := fun b o h => by
  unfold join
  by_cases e : b ∈ F
  · rw [n b e] at h; cases h
  · rw [if_neg e]; exact h
mutual
theorem RepM.free {G : Gm} {H0 H : Hp} : ∀ {m : M} {v : V} {F : List Addr}, RepM G H0 H m v F → ∀ b ∈ F, H0 b = none ∧ b ≠ G.pa ∧ H b ≠ none
  | .leaf _, _, _, h => by
    simp only [RepM] at h
    rw [h.2]; simp
  | .lst _, _, _, h => by
    simp only [RepM] at h
    obtain ⟨p, vs, F', h1, h2, h3, h4, h5, h6⟩ := h
    subst h2
    intro b hb
    rcases List.mem_cons.mp hb with z | z
    · rw [z]; exact ⟨h3, h4, by rw [h5]; intro z; cases z⟩
    · exact RepMs.free h6 b z
  | .dK _ _, _, _, h => by
    simp only [RepM] at h
    obtain ⟨p, vs, F', h1, h2, h3, h4, h5, h6, h7⟩ := h
    subst h2
    intro b hb
    rcases List.mem_cons.mp hb with z | z
    · rw [z]; exact ⟨h3, h4, by rw [h5]; intro z; cases z⟩
    · exact RepMs.free h7 b z
  | .dT _ _, _, _, h => by
    simp only [RepM] at h
    obtain ⟨p, vs, F', h1, h2, h3, h4, h5, h6, h7⟩ := h
    subst h2
    intro b hb
    rcases List.mem_cons.mp hb with z | z
    · rw [z]; exact ⟨h3, h4, by rw [h5]; intro z; cases z⟩
    · exact RepMs.free h7 b z
  | .ins _ _ _, _, _, h => by
    simp only [RepM] at h
    obtain ⟨p, dx, vs, F', h1, h2, h3, h4, h5, h6, h7⟩ := h
    subst h2
    intro b hb
    rcases List.mem_cons.mp hb with z | z
    · rw [z]; exact ⟨h3, h4, by rw [h5]; intro z; cases z⟩
    · exact RepMs.free h7 b z
theorem RepMs.free {G : Gm} {H0 H : Hp} : ∀ {ms : List M} {vs : List V} {F : List Addr}, RepMs G H0 H ms vs F → ∀ b ∈ F, H0 b = none ∧ b ≠ G.pa ∧ H b ≠ none
  | [], _, _, h => by
    simp only [RepMs] at h
    rw [h.2]; simp
  | _ :: _, _, _, h => by
    simp only [RepMs] at h
    obtain ⟨v, r, F1, F2, h1, h2, h3, h4⟩ := h
    subst h2
    intro b hb
    rcases List.mem_append.mp hb with z | z
    · exact RepM.free h3 b z
    · exact RepMs.free h4 b z
end
mutual
theorem RepM.toJ {G : Gm} {H0 H J : Hp} (e0 : Ex H0 J) : ∀ {m : M} {v : V} {F : List Addr}, RepM G H0 H m v F → (∀ b ∈ F, J b = H b) → Rep G J m.toD v
  | .leaf _, _, _, h, _ => by
    simp only [RepM] at h
    exact Rep.mono e0 h.1
  | .lst _, _, _, h, k => by
    simp only [RepM] at h
    obtain ⟨p, vs, F', h1, h2, h3, h4, h5, h6⟩ := h
    subst h2
    simp only [M.toD, Rep]
    exact ⟨p, vs, h1, by rw [k p (by simp)]; exact h5, RepMs.toJs e0 h6 fun b hb => k b (by simp [hb])⟩
  | .dK _ _, _, _, h, k => by
    simp only [RepM] at h
    obtain ⟨p, vs, F', h1, h2, h3, h4, h5, h6, h7⟩ := h
    subst h2
    simp only [M.toD, Rep]
    exact ⟨p, vs, h1, by rw [k p (by simp)]; exact h5, h6, RepMs.toJs e0 h7 fun b hb => k b (by simp [hb])⟩
  | .dT _ _, _, _, h, k => by
    simp only [RepM] at h
    obtain ⟨p, vs, F', h1, h2, h3, h4, h5, h6, h7⟩ := h
    subst h2
    simp only [M.toD, Rep]
    exact ⟨p, vs, h1, by rw [k p (by simp)]; exact h5, h6, RepMs.toJs e0 h7 fun b hb => k b (by simp [hb])⟩
  | .ins _ _ _, _, _, h, k => by
    simp only [RepM] at h
    obtain ⟨p, dx, vs, F', h1, h2, h3, h4, h5, h6, h7⟩ := h
    subst h2
    simp only [M.toD, Rep]
    exact ⟨p, dx, vs, h1, by rw [k p (by simp)]; exact h5, h6, RepMs.toJs e0 h7 fun b hb => k b (by simp [hb])⟩
theorem RepMs.toJs {G : Gm} {H0 H J : Hp} (e0 : Ex H0 J) : ∀ {ms : List M} {vs : List V} {F : List Addr}, RepMs G H0 H ms vs F → (∀ b ∈ F, J b = H b) → Reps G J (Ms.toDs ms) vs
  | [], _, _, h, _ => by
    simp only [RepMs] at h
    simp only [Ms.toDs, Reps]
    exact h.1
  | _ :: _, _, _, h, k => by
    simp only [RepMs] at h
    obtain ⟨v, r, F1, F2, h1, h2, h3, h4⟩ := h
    subst h2
    simp only [Ms.toDs, Reps]
    exact ⟨v, r, h1, RepM.toJ e0 h3 fun b hb => k b (by simp [hb]), RepMs.toJs e0 h4 fun b hb => k b (by simp [hb])⟩
end

/-! ### lists of data -/
theorem Reps.nil {G : Gm} {H : Hp} : Reps G H [] [] := by simp only [Reps]
theorem Reps.cons {G : Gm} {H : Hp} {d : D} {ds : List D} {v : V} {vs : List V} (h : Rep G H d v) (t : Reps G H ds vs) : Reps G H (d :: ds) (v :: vs) := by
  simp only [Reps]; exact ⟨v, vs, rfl, h, t⟩
theorem Reps.cases {G : Gm} {H : Hp} {d : D} {ds : List D} {vs : List V} (h : Reps G H (d :: ds) vs) : ∃ v r, vs = v :: r ∧ Rep G H d v ∧ Reps G H ds r := by simpa only [Reps] using h
theorem Reps.length {G : Gm} {H : Hp} : ∀ {ds : List D} {vs : List V}, Reps G H ds vs → vs.length = ds.length
  | [], _, h => by simp only [Reps] at h; subst h; rfl
  | _ :: _, _, h => by
    obtain ⟨v, r, e, _, h2⟩ := h.cases
    subst e
    rw [List.length_cons, List.length_cons, Reps.length h2]
theorem Reps.append {G : Gm} {H : Hp} : ∀ {ds es : List D} {vs ws : List V}, Reps G H ds vs → Reps G H es ws → Reps G H (ds ++ es) (vs ++ ws)
  | [], _, _, _, h, k => by simp only [Reps] at h; subst h; exact k
  | _ :: _, _, _, _, h, k => by
    obtain ⟨v, r, e, h1, h2⟩ := h.cases
    subst e
    exact .cons h1 (Reps.append h2 k)
theorem Reps.get {G : Gm} {H : Hp} : ∀ {ds : List D} {vs : List V} {i : Nat} {d : D}, Reps G H ds vs → ds[i]? = some d → ∃ v, vs[i]? = some v ∧ Rep G H d v
  | [], _, _, _, _, e => by simp at e
  | _ :: _, _, 0, _, h, e => by
    obtain ⟨v, r, q, h1, h2⟩ := h.cases
    subst q
    simp at e; subst e
    exact ⟨v, rfl, h1⟩
  | _ :: _, _, i + 1, _, h, e => by
    obtain ⟨v, r, q, h1, h2⟩ := h.cases
    subst q
    obtain ⟨w, h3, h4⟩ := Reps.get (i := i) h2 (by simpa using e)
    exact ⟨w, by simpa using h3, h4⟩
theorem Reps.get' {G : Gm} {H : Hp} : ∀ {ds : List D} {vs : List V} {i : Nat} {v : V}, Reps G H ds vs → vs[i]? = some v → ∃ d, ds[i]? = some d ∧ Rep G H d v
  | [], _, _, _, h, e => by simp only [Reps] at h; subst h; simp at e
  | d :: _, _, 0, _, h, e => by
    obtain ⟨v, r, q, h1, h2⟩ := h.cases
    subst q
    simp at e; subst e
    exact ⟨d, rfl, h1⟩
  | _ :: _, _, i + 1, _, h, e => by
    obtain ⟨v, r, q, h1, h2⟩ := h.cases
    subst q
    obtain ⟨w, h3, h4⟩ := Reps.get' (i := i) h2 (by simpa using e)
    exact ⟨w, by simpa using h3, h4⟩
theorem Reps.take {G : Gm} {H : Hp} : ∀ {ds : List D} {vs : List V} (n : Nat), Reps G H ds vs → Reps G H (ds.take n) (vs.take n)
  | [], _, _, h => by simp only [Reps] at h; subst h; simpa using Reps.nil
  | _ :: _, _, 0, h => by simpa using Reps.nil
  | _ :: _, _, n + 1, h => by
    obtain ⟨v, r, q, h1, h2⟩ := h.cases
    subst q
    exact .cons h1 (Reps.take n h2)
theorem Reps.drop {G : Gm} {H : Hp} : ∀ {ds : List D} {vs : List V} (n : Nat), Reps G H ds vs → Reps G H (ds.drop n) (vs.drop n)
  | [], _, _, h => by simp only [Reps] at h; subst h; simpa using Reps.nil
  | _ :: _, _, 0, h => h
  | _ :: _, _, n + 1, h => by
    obtain ⟨v, r, q, h1, h2⟩ := h.cases
    subst q
    exact Reps.drop n h2
theorem Reps.ints {G : Gm} {H : Hp} : ∀ (ns : List Int), Reps G H (ns.map D.int) (ns.map V.int)
  | [] => .nil
  | _ :: ns => .cons (by simp only [Rep]) (Reps.ints ns)
theorem Reps.bls {G : Gm} {H : Hp} : ∀ (ns : List Bool), Reps G H (ns.map D.bl) (ns.map V.bl)
  | [] => .nil
  | _ :: ns => .cons (by simp only [Rep]) (Reps.bls ns)
theorem Reps.of_ints {G : Gm} {H : Hp} : ∀ {ns : List Int} {vs : List V}, Reps G H (ns.map D.int) vs → vs = ns.map V.int
  | [], _, h => by simpa only [Reps, List.map_nil] using h
  | _ :: _, _, h => by
    obtain ⟨v, r, q, h1, h2⟩ := h.cases
    simp only [Rep] at h1
    subst q h1
    rw [Reps.of_ints h2]; rfl
theorem Reps.of_bls {G : Gm} {H : Hp} : ∀ {ns : List Bool} {vs : List V}, Reps G H (ns.map D.bl) vs → vs = ns.map V.bl
  | [], _, h => by simpa only [Reps, List.map_nil] using h
  | _ :: _, _, h => by
    obtain ⟨v, r, q, h1, h2⟩ := h.cases
    simp only [Rep] at h1
    subst q h1
    rw [Reps.of_bls h2]; rfl

/-! ### the pen, the monad, the environment -/
structure Pen where
  cells : List Int
  at_ : Nat
  digits : Int
  count : Int
  fold : Int

def MM (α : Type) := Pen → Option (α × Pen)
instance : Monad MM where
  pure a := fun s => some (a, s)
  bind m f := fun s => match m s with
    | none => none
    | some (a, s') => f a s'
def fail {α : Type} : MM α := fun _ => none
theorem mm_pure {α : Type} (a : α) (s : Pen) : (pure a : MM α) s = some (a, s) := rfl
theorem mm_bind {α β : Type} (m : MM α) (f : α → MM β) (s : Pen) : (m >>= f) s = match m s with
    | none => none
    | some (a, s') => f a s' := rfl
theorem mm_bind_some {α β : Type} {m : MM α} {f : α → MM β} {s s2 : Pen} {b : β} (h : (m >>= f) s = some (b, s2)) : ∃ a s1, m s = some (a, s1) ∧ f a s1 = some (b, s2) := by
  rw [mm_bind] at h
  cases e : m s with
  | none => rw [e] at h; cases h
  | some p => obtain ⟨a, s1⟩ := p; rw [e] at h; exact ⟨a, s1, rfl, h⟩
instance : LawfulMonad MM := LawfulMonad.mk'
  (id_map := fun x => by
    funext s
    show (match x s with | none => none | some (a, s') => some (id a, s')) = x s
    cases x s <;> rfl)
  (pure_bind := fun _ _ => rfl)
  (bind_assoc := fun x f g => by
    funext s
    show (match (match x s with | none => none | some (a, s') => f a s') with | none => none | some (a, s') => g a s') = (match x s with | none => none | some (a, s') => (match f a s' with | none => none | some (a, s') => g a s'))
    cases x s <;> rfl)
theorem fail_bind {α β : Type} (f : α → MM β) : ((fail : MM α) >>= f) = fail := rfl
def ofO {α : Type} : Option α → MM α
  | some a => pure a
  | none => fail
theorem ofO_some {α : Type} {o : Option α} {s s' : Pen} {a : α} (h : ofO o s = some (a, s')) : o = some a ∧ s' = s := by
  cases o with
  | none => cases h
  | some b => cases h; exact ⟨rfl, rfl⟩

inductive Sl where
  | un
  | sh (d : D)
  | ow (m : M)
abbrev Env := List Sl

def SlOk (G : Gm) (H0 H : Hp) (x : Option V) (F : List Addr) : Sl → Prop
  | .un => F = []
  | .sh d => F = [] ∧ ∃ v, x = some v ∧ Rep G H0 d v
  | .ow m => ∃ v, x = some v ∧ RepM G H0 H m v F

def EnvOk (G : Gm) (H0 H : Hp) : Env → L2.St → List Addr → Prop
  | [], σ, F => σ = [] ∧ F = []
  | s :: ρ, σ, F => ∃ x σ' F1 F2, σ = x :: σ' ∧ F = F1 ++ F2 ∧ SlOk G H0 H x F1 s ∧ EnvOk G H0 H ρ σ' F2

structure PenAt (G : Gm) (π : Pen) (H0 H : Hp) : Prop where
  cs : H0 G.ca = some (.lst (π.cells.map V.int))
  at_ : H G.pa = some (.dK [(.inr "cells", .ref G.ca), (.inr "at", .int π.at_), (.inr "digits", .int π.digits), (.inr "count", .int π.count), (.inr "fold", .int π.fold)])

structure SA (G : Gm) (ρ : Env) (σ : L2.St) (H0 H : Hp) (F : List Addr) : Prop where
  i0 : Ex H0 (hid G H)
  env : EnvOk G H0 H ρ σ F
  nd : F.Nodup

theorem PenAt.pa {G : Gm} {π : Pen} {H0 H : Hp} (h : PenAt G π H0 H) : H G.pa ≠ none := by
  rw [h.at_]; intro z; cases z

theorem SlOk.keep {G : Gm} {H0 H H0' H' : Hp} {x : Option V} {F : List Addr} {s : Sl} (fz : Ex H0 H0') (h : SlOk G H0 H x F s) (k : ∀ b ∈ F, ∀ o, b ≠ G.pa → H b = some o → H' b = some o) (n : ∀ b ∈ F, H b ≠ none → H0 b = none → H0' b = none) : SlOk G H0' H' x F s := by
  cases s with
  | un => exact h
  | sh d =>
    obtain ⟨e, v, h1, h2⟩ := h
    exact ⟨e, v, h1, Rep.mono fz h2⟩
  | ow m =>
    obtain ⟨v, h1, h2⟩ := h
    exact ⟨v, h1, RepM.keep fz h2 k n⟩
theorem EnvOk.keep {G : Gm} {H0 H H0' H' : Hp} (fz : Ex H0 H0') : ∀ {ρ : Env} {σ : L2.St} {F : List Addr}, EnvOk G H0 H ρ σ F → (∀ b ∈ F, ∀ o, b ≠ G.pa → H b = some o → H' b = some o) → (∀ b ∈ F, H b ≠ none → H0 b = none → H0' b = none) → EnvOk G H0' H' ρ σ F
  | [], _, _, h, _, _ => h
  | s :: ρ, _, _, h, k, n => by
    obtain ⟨x, σ', F1, F2, h1, h2, h3, h4⟩ := h
    subst h2
    exact ⟨x, σ', F1, F2, h1, rfl, h3.keep fz (fun b hb => k b (by simp [hb])) (fun b hb => n b (by simp [hb])), EnvOk.keep fz h4 (fun b hb => k b (by simp [hb])) (fun b hb => n b (by simp [hb]))⟩
theorem SlOk.free {G : Gm} {H0 H : Hp} {x : Option V} {F : List Addr} {s : Sl} (h : SlOk G H0 H x F s) : ∀ b ∈ F, H0 b = none ∧ b ≠ G.pa ∧ H b ≠ none := by
  cases s with
  | un => rw [show F = [] from h]; simp
  | sh d => rw [h.1]; simp
  | ow m =>
    obtain ⟨v, h1, h2⟩ := h
    exact h2.free
theorem EnvOk.free {G : Gm} {H0 H : Hp} : ∀ {ρ : Env} {σ : L2.St} {F : List Addr}, EnvOk G H0 H ρ σ F → ∀ b ∈ F, H0 b = none ∧ b ≠ G.pa ∧ H b ≠ none
  | [], _, _, h => by rw [h.2]; simp
  | s :: ρ, _, _, h => by
    obtain ⟨x, σ', F1, F2, h1, h2, h3, h4⟩ := h
    subst h2
    intro b hb
    rcases List.mem_append.mp hb with z | z
    · exact h3.free b z
    · exact EnvOk.free h4 b z
theorem EnvOk.length {G : Gm} {H0 H : Hp} : ∀ {ρ : Env} {σ : L2.St} {F : List Addr}, EnvOk G H0 H ρ σ F → σ.length = ρ.length
  | [], _, _, h => by rw [h.1]; rfl
  | s :: ρ, _, _, h => by
    obtain ⟨x, σ', F1, F2, h1, h2, h3, h4⟩ := h
    rw [h1, List.length_cons, List.length_cons, EnvOk.length h4]
theorem EnvOk.get {G : Gm} {H0 H : Hp} : ∀ {ρ : Env} {σ : L2.St} {F : List Addr} {i : Nat} {s : Sl}, EnvOk G H0 H ρ σ F → ρ[i]? = some s → ∃ x F1, σ[i]? = some x ∧ SlOk G H0 H x F1 s ∧ (∀ b ∈ F1, b ∈ F)
  | [], _, _, _, _, _, e => by simp at e
  | s :: ρ, _, _, 0, _, h, e => by
    obtain ⟨x, σ', F1, F2, h1, h2, h3, h4⟩ := h
    subst h1 h2
    simp at e; subst e
    exact ⟨x, F1, rfl, h3, fun b hb => by simp [hb]⟩
  | s :: ρ, _, _, i + 1, _, h, e => by
    obtain ⟨x, σ', F1, F2, h1, h2, h3, h4⟩ := h
    subst h1 h2
    obtain ⟨y, F3, g1, g2, g3⟩ := EnvOk.get (i := i) h4 (by simpa using e)
    exact ⟨y, F3, by simpa using g1, g2, fun b hb => by simp [g3 b hb]⟩
theorem SA.pure {G : Gm} {ρ : Env} {σ : L2.St} {H0 H H0' H' : Hp} {F : List Addr} (h : SA G ρ σ H0 H F) (s : Pure G H0 H H0' H') : SA G ρ σ H0' H' F :=
  ⟨s.inn, h.env.keep s.fz (fun b _ o hb q => by
    have := s.all b o (by rw [hid_ne hb]; exact q)
    rw [hid_ne hb] at this; exact this) (fun b _ q1 q2 => s.new b q1 q2), h.nd⟩
end DL
set_option Elab.async false
set_option linter.all false
set_option maxRecDepth 100000
set_option maxHeartbeats 4000000
namespace DL
open PySem L2

def pick (b : Bool) (H0 H : Hp) : Hp := if b = true then H0 else H
theorem pick_mono {G : Gm} {b : Bool} {H0 H H0' H' : Hp} (s : Pure G H0 H H0' H') : Ex (pick b H0 (hid G H)) (pick b H0' (hid G H')) := by
  cases b with
  | true => exact s.fz
  | false => exact s.all
theorem pick_of0 {G : Gm} {b : Bool} {H0 H : Hp} (i : Ex H0 (hid G H)) : Ex H0 (pick b H0 (hid G H)) := by
  cases b with
  | true => exact Ex.refl _
  | false => exact i
theorem pick_to {G : Gm} {b : Bool} {H0 H : Hp} (i : Ex H0 (hid G H)) : Ex (pick b H0 (hid G H)) (hid G H) := by
  cases b with
  | true => exact i
  | false => exact Ex.refl _

/-! ### what is laid anew -/
section
variable {G : Gm} {π : Pen} {H0 H : Hp} {p : Addr} {o : HO}
theorem ne_pa (P : PenAt G π H0 H) (hp : H p = none) : p ≠ G.pa := by
  intro e; subst e; exact P.pa hp
theorem free0 (i : Ex H0 (hid G H)) (hp : H p = none) : H0 p = none := by
  cases q : H0 p with
  | none => rfl
  | some o =>
    have := (hid_some (i p o q)).2
    rw [hp] at this; cases this
theorem ex_upd {H' : Hp} (e : Ex H H') (hp : H p = none) : Ex H (upd H' p o) := fun b u hb => by
  rw [upd_ne (ne_of_none hb hp)]; exact e b u hb
theorem PenAt.grow {H0' H' : Hp} (P : PenAt G π H0 H) (e : Ex H0 H0') (h : H' G.pa = H G.pa) : PenAt G π H0' H' := by
  exact ⟨e _ _ P.cs, by rw [h]; exact P.at_⟩
/-- a new frozen object -/
theorem alloc (i : Ex H0 (hid G H)) (P : PenAt G π H0 H) (hp : H p = none) : Pure G H0 H (upd H0 p o) (upd H p o) ∧ PenAt G π (upd H0 p o) (upd H p o) ∧ ∀ b, pick b (upd H0 p o) (hid G (upd H p o)) p = some o := by
  have np := ne_pa P hp
  have h0 := free0 i hp
  refine ⟨⟨ex_upd (Ex.refl _) h0, fun b u hb => ?_, fun b u hb => ?_, fun b h1 h2 => ?_⟩, P.grow (ex_upd (Ex.refl _) h0) (upd_ne (Ne.symm np)), fun b => ?_⟩
  · obtain ⟨nb, hb⟩ := hid_some hb
    rw [hid_ne nb, upd_ne (ne_of_none hb hp)]; exact hb
  · by_cases e : b = p
    · subst e
      rw [upd_same] at hb
      rw [hid_ne np, upd_same]; exact hb
    · rw [upd_ne e] at hb
      have := i b u hb
      obtain ⟨nb, hb⟩ := hid_some this
      rw [hid_ne nb, upd_ne e]; exact hb
  · have : b ≠ p := by intro e; subst e; exact h1 hp
    rw [upd_ne this]; exact h2
  · cases b with
    | true => exact upd_same
    | false =>
      show hid G (upd H p o) p = some o
      rw [hid_ne np]; exact upd_same
/-- a new object of one's own -/
theorem allocO (i : Ex H0 (hid G H)) (P : PenAt G π H0 H) (hp : H p = none) : Pure G H0 H H0 (upd H p o) ∧ PenAt G π H0 (upd H p o) := by
  have np := ne_pa P hp
  have h0 := free0 i hp
  refine ⟨⟨Ex.refl _, fun b u hb => ?_, fun b u hb => ?_, fun b h1 h2 => h2⟩, P.grow (Ex.refl _) (upd_ne (Ne.symm np))⟩
  · obtain ⟨nb, hb⟩ := hid_some hb
    rw [hid_ne nb, upd_ne (ne_of_none hb hp)]; exact hb
  · obtain ⟨nb, hb'⟩ := hid_some (i b u hb)
    rw [hid_ne nb, upd_ne (ne_of_none hb' hp)]; exact hb'
/-- fresh things of one's own are frozen -/
theorem freeze {F : List Addr} (i : Ex H0 (hid G H)) (P : PenAt G π H0 H) (fr : ∀ b ∈ F, H0 b = none ∧ b ≠ G.pa ∧ H b ≠ none) : Ex H0 (join H0 H F) ∧ Ex (join H0 H F) (hid G H) ∧ PenAt G π (join H0 H F) H := by
  have e := join_ex (G := G) (H := H) (fun b hb => (fr b hb).1)
  refine ⟨e, fun b o h => ?_, P.grow e rfl⟩
  unfold join at h
  by_cases hb : b ∈ F
  · rw [if_pos hb] at h
    rw [hid_ne (fr b hb).2.1]; exact h
  · rw [if_neg hb] at h; exact i b o h
end

/-! ### the judgements -/
section
variable (K : PySem.W.Frag) (cl : Nat → Addr)
def Kont (G : Gm) (b : Bool) (H0 H : Hp) (d : D) (π' : Pen) (Q : VK) : Prop := ∀ v H0' H', Pure G H0 H H0' H' → PenAt G π' H0' H' → Rep G (pick b H0' (hid G H')) d v → Q v H'
/-- an expression: b = true: what comes is frozen -/
def Rf (b : Bool) (te : TE) (m : Env → MM D) : Prop := ∀ (pa : PA) (ρ : Env) (σ : L2.St) (H0 H : Hp) (F : List Addr) (π : Pen) (d : D) (π' : Pen) (Q : VK),
  SA ⟨K, cl, pa⟩ ρ σ H0 H F → PenAt ⟨K, cl, pa⟩ π H0 H → m ρ π = some (d, π') → Kont ⟨K, cl, pa⟩ b H0 H d π' Q → te σ H Q
/-- a test -/
def Rt (tt : TT) (m : Env → MM Bool) : Prop := ∀ (pa : PA) (ρ : Env) (σ : L2.St) (H0 H : Hp) (F : List Addr) (π : Pen) (c : Bool) (π' : Pen) (Q : Bool → Hp → Prop),
  SA ⟨K, cl, pa⟩ ρ σ H0 H F → PenAt ⟨K, cl, pa⟩ π H0 H → m ρ π = some (c, π') → (∀ H0' H', Pure ⟨K, cl, pa⟩ H0 H H0' H' → PenAt ⟨K, cl, pa⟩ π' H0' H' → Q c H') → tt σ H Q
/-- arguments -/
def Ra (b : Bool) (ta : TA) (m : Env → MM (List D)) : Prop := ∀ (pa : PA) (ρ : Env) (σ : L2.St) (H0 H : Hp) (F : List Addr) (π : Pen) (ds : List D) (π' : Pen) (Q : List V → Hp → Prop),
  SA ⟨K, cl, pa⟩ ρ σ H0 H F → PenAt ⟨K, cl, pa⟩ π H0 H → m ρ π = some (ds, π') →
  (∀ vs H0' H', Pure ⟨K, cl, pa⟩ H0 H H0' H' → PenAt ⟨K, cl, pa⟩ π' H0' H' → Reps ⟨K, cl, pa⟩ (pick b H0' (hid ⟨K, cl, pa⟩ H')) ds vs → Q vs H') → ta σ H Q
/-- a fresh thing of one's own -/
def Ro (te : TE) (m : Env → MM M) : Prop := ∀ (pa : PA) (ρ : Env) (σ : L2.St) (H0 H : Hp) (F : List Addr) (π : Pen) (x : M) (π' : Pen) (Q : VK),
  SA ⟨K, cl, pa⟩ ρ σ H0 H F → PenAt ⟨K, cl, pa⟩ π H0 H → m ρ π = some (x, π') →
  (∀ v H0' H' Fn, Pure ⟨K, cl, pa⟩ H0 H H0' H' → PenAt ⟨K, cl, pa⟩ π' H0' H' → RepM ⟨K, cl, pa⟩ H0' H' x v Fn → Fn.Nodup → (∀ b ∈ Fn, H b = none) → Q v H') → te σ H Q
/-- an operation on two values -/
def R2k (bi bo : Bool) (r : R2) (f : D → D → Option D) : Prop := ∀ (pa : PA) (H0 H : Hp) (π : Pen) (x y : V) (dx dy d : D) (Q : VK), Ex H0 (hid ⟨K, cl, pa⟩ H) → PenAt ⟨K, cl, pa⟩ π H0 H →
  Rep ⟨K, cl, pa⟩ (pick bi H0 (hid ⟨K, cl, pa⟩ H)) dx x → Rep ⟨K, cl, pa⟩ (pick bi H0 (hid ⟨K, cl, pa⟩ H)) dy y → f dx dy = some d → Kont ⟨K, cl, pa⟩ bo H0 H d π Q → r x y H Q
/-- a call by values -/
def Rck (bi bo : Bool) (r : List V → Hp → VK → Prop) (f : List D → Option D) : Prop := ∀ (pa : PA) (H0 H : Hp) (π : Pen) (vs : List V) (ds : List D) (d : D) (Q : VK), Ex H0 (hid ⟨K, cl, pa⟩ H) → PenAt ⟨K, cl, pa⟩ π H0 H →
  Reps ⟨K, cl, pa⟩ (pick bi H0 (hid ⟨K, cl, pa⟩ H)) ds vs → f ds = some d → Kont ⟨K, cl, pa⟩ bo H0 H d π Q → r vs H Q
end

section
variable {K : PySem.W.Frag} {cl : Nat → Addr}
variable {b bi bo : Bool} {ta tb tc te : TE} {ma mb mc me : Env → MM D} {t u : TT} {mt mu : Env → MM Bool} {tg : TA} {mg : Env → MM (List D)}

theorem Kont.pre {G : Gm} {H0 H H0' H' : Hp} {d : D} {π π2 : Pen} {Q : VK} (P : PenAt G π2 H0' H') (s : Pure G H0 H H0' H') (k : Kont G b H0 H d π Q) : Kont G b H0' H' d π Q :=
  fun v H0'' H'' s2 p2 r => k v H0'' H'' (s.trans (fun _ => P.pa) s2) p2 r
theorem Kont.here {G : Gm} {H0 H : Hp} {d : D} {π : Pen} {Q : VK} {v : V} (k : Kont G b H0 H d π Q) (i : Ex H0 (hid G H)) (P : PenAt G π H0 H) (r : Rep G (pick b H0 (hid G H)) d v) : Q v H := k v H0 H (Pure.refl i) P r

/-! ### names, constants -/
def eVar (i : Nat) : Env → MM D := fun ρ => match ρ[i]? with
  | some (.sh d) => pure d
  | _ => fail
def eVarB (i : Nat) : Env → MM D := fun ρ => match ρ[i]? with
  | some (.sh d) => pure d
  | some (.ow m) => pure m.toD
  | _ => fail
def eC (d : D) : Env → MM D := fun _ => pure d
theorem rf_var {i : Nat} : Rf K cl b (tVar i) (eVar i) := by
  intro pa ρ σ H0 H F π d π' Q S P h k
  unfold eVar at h
  cases e : ρ[i]? with
  | none => rw [e] at h; cases h
  | some s =>
    rw [e] at h
    cases s with
    | un => cases h
    | ow m => cases h
    | sh d' =>
      cases h
      obtain ⟨x, F1, h1, ⟨_, v, h2, h3⟩, _⟩ := S.env.get e
      subst h2
      exact ⟨v, h1, k.here S.i0 P (Rep.mono (pick_of0 S.i0) h3)⟩
theorem rf_varB {i : Nat} : Rf K cl false (tVar i) (eVarB i) := by
  intro pa ρ σ H0 H F π d π' Q S P h k
  unfold eVarB at h
  cases e : ρ[i]? with
  | none => rw [e] at h; cases h
  | some s =>
    rw [e] at h
    cases s with
    | un => cases h
    | ow m =>
      cases h
      obtain ⟨x, F1, h1, ⟨v, h2, h3⟩, _⟩ := S.env.get e
      subst h2
      exact ⟨v, h1, k.here S.i0 P (RepM.toD S.i0 h3)⟩
    | sh d' =>
      cases h
      obtain ⟨x, F1, h1, ⟨_, v, h2, h3⟩, _⟩ := S.env.get e
      subst h2
      exact ⟨v, h1, k.here S.i0 P (Rep.mono (pick_of0 S.i0) h3)⟩
theorem rf_c {v : V} {d : D} (h : ∀ G H, Rep G H d v) : Rf K cl b (tC v) (eC d) := by
  intro pa ρ σ H0 H F π d' π' Q S P e k
  cases e
  exact k.here S.i0 P (h _ _)
theorem rf_non : Rf K cl b (tC .non) (eC .non) := rf_c fun _ _ => by simp only [Rep]
theorem rf_bl {c : Bool} : Rf K cl b (tC (.bl c)) (eC (.bl c)) := rf_c fun _ _ => by simp only [Rep]
theorem rf_int {i : Int} : Rf K cl b (tC (.int i)) (eC (.int i)) := rf_c fun _ _ => by simp only [Rep]
theorem rf_str {s : Str} : Rf K cl b (tC (.str s)) (eC (.str s)) := rf_c fun _ _ => by simp only [Rep]

/-! ### operations -/
def eBin (f : D → D → Option D) (ma mb : Env → MM D) : Env → MM D := fun ρ => do
  let x ← ma ρ
  let y ← mb ρ
  ofO (f x y)
theorem rf_op {r : R2} {f : D → D → Option D} (ha : Rf K cl bi ta ma) (hb : Rf K cl bi tb mb) (hr : R2k K cl bi bo r f) : Rf K cl bo (tOp r ta tb) (eBin f ma mb) := by
  intro pa ρ σ H0 H F π d π' Q S P h k
  obtain ⟨x, π1, h1, h⟩ := mm_bind_some h
  obtain ⟨y, π2, h2, h⟩ := mm_bind_some h
  obtain ⟨h3, rfl⟩ := ofO_some h
  refine ha pa ρ σ H0 H F π x π1 _ S P h1 fun v H01 H1 s1 P1 r1 => ?_
  refine hb pa ρ σ H01 H1 F π1 y π' _ (S.pure s1) P1 h2 fun w H02 H2 s2 P2 r2 => ?_
  exact hr pa H02 H2 π' v w x y d Q s2.inn P2 (Rep.mono (pick_mono s2) r1) r2 h3 ((k.pre P1 s1).pre P2 s2)
def eUn (f : D → Option D) (ma : Env → MM D) : Env → MM D := fun ρ => do
  let x ← ma ρ
  ofO (f x)
def dNeg : D → Option D
  | .int i => some (.int (-i))
  | _ => none
theorem rf_neg (ha : Rf K cl bi ta ma) : Rf K cl bo (tUn (rU fun i => .int (-i)) ta) (eUn dNeg ma) := by
  intro pa ρ σ H0 H F π d π' Q S P h k
  obtain ⟨x, π1, h1, h⟩ := mm_bind_some h
  obtain ⟨h3, rfl⟩ := ofO_some h
  refine ha pa ρ σ H0 H F π x π' _ S P h1 fun v H01 H1 s1 P1 r1 => ?_
  cases x with
  | int i =>
    simp only [Rep] at r1
    cases h3
    exact ⟨i, r1, (k.pre P1 s1).here s1.inn P1 (by simp only [Rep])⟩
  | _ => cases h3
/-- a chain of two comparisons -/
def eChain (f g : D → D → Option D) (ma mb mc : Env → MM D) : Env → MM D := fun ρ => do
  let x ← ma ρ
  let y ← mb ρ
  let z ← ofO (f x y)
  match z with
  | .bl true => do
    let w ← mc ρ
    ofO (g y w)
  | .bl false => pure (.bl false)
  | _ => fail
theorem rf_chain {r r' : R2} {f g : D → D → Option D} (ha : Rf K cl bi ta ma) (hb : Rf K cl bi tb mb) (hc : Rf K cl bi tc mc) (hr : R2k K cl bi bo r f) (hr' : R2k K cl bi bo r' g) :
    Rf K cl bo (tChain r r' ta tb tc) (eChain f g ma mb mc) := by
  intro pa ρ σ H0 H F π d π' Q S P h k
  obtain ⟨x, π1, h1, h⟩ := mm_bind_some h
  obtain ⟨y, π2, h2, h⟩ := mm_bind_some h
  obtain ⟨z, π3, h3, h⟩ := mm_bind_some h
  obtain ⟨h3', rfl⟩ := ofO_some h3
  refine ha pa ρ σ H0 H F π x π1 _ S P h1 fun v H01 H1 s1 P1 r1 => ?_
  refine hb pa ρ σ H01 H1 F π1 y π3 _ (S.pure s1) P1 h2 fun w H02 H2 s2 P2 r2 => ?_
  have k2 := (k.pre P1 s1).pre P2 s2
  refine hr pa H02 H2 π3 v w x y z _ s2.inn P2 (Rep.mono (pick_mono s2) r1) r2 h3' fun v3 H03 H3 s3 P3 r3 => ?_
  cases z with
  | bl c =>
    simp only [Rep] at r3
    refine ⟨c, r3, ?_⟩
    cases c with
    | true =>
      obtain ⟨wd, π4, h4, h⟩ := mm_bind_some h
      obtain ⟨h5, rfl⟩ := ofO_some h
      show tc σ H3 _
      refine hc pa ρ σ H03 H3 F π3 wd π' _ (((S.pure s1).pure s2).pure s3) P3 h4 fun w4 H04 H4 s4 P4 r4 => ?_
      exact hr' pa H04 H4 π' w w4 y wd d Q s4.inn P4 (Rep.mono (pick_mono s4) (Rep.mono (pick_mono s3) r2)) r4 h5 ((k2.pre P3 s3).pre P4 s4)
    | false =>
      cases h
      show Q (.bl false) H3
      exact (k2.pre P3 s3).here s3.inn P3 (by simp only [Rep])
  | _ => cases h

/-! ### tests -/
def tBool (me : Env → MM D) : Env → MM Bool := fun ρ => do
  let x ← me ρ
  match x with
  | .bl c => pure c
  | _ => fail
theorem rt_test (h : Rf K cl b te me) : Rt K cl (tTest te) (tBool me) := by
  intro pa ρ σ H0 H F π c π' Q S P hm k
  obtain ⟨x, π1, h1, hm⟩ := mm_bind_some hm
  refine h pa ρ σ H0 H F π x π1 _ S P h1 fun v H01 H1 s1 P1 r1 => ?_
  cases x with
  | bl c' =>
    cases hm
    simp only [Rep] at r1
    exact ⟨c, r1, k H01 H1 s1 P1⟩
  | _ => cases hm
theorem rt_B (h : Rf K cl b te me) : Rt K cl (tB te) (tBool me) := rt_test h
def tAnd' (a c : Env → MM Bool) : Env → MM Bool := fun ρ => do
  let x ← a ρ
  if x then c ρ else pure false
def tOr' (a c : Env → MM Bool) : Env → MM Bool := fun ρ => do
  let x ← a ρ
  if x then pure true else c ρ
def tNot' (a : Env → MM Bool) : Env → MM Bool := fun ρ => do
  let x ← a ρ
  pure (!x)
theorem rt_and (h1 : Rt K cl t mt) (h2 : Rt K cl u mu) : Rt K cl (tAnd t u) (tAnd' mt mu) := by
  intro pa ρ σ H0 H F π c π' Q S P hm k
  obtain ⟨x, π1, e1, hm⟩ := mm_bind_some hm
  refine h1 pa ρ σ H0 H F π x π1 _ S P e1 fun H01 H1 s1 P1 => ?_
  cases x with
  | true =>
    show u σ H1 Q
    exact h2 pa ρ σ H01 H1 F π1 c π' Q (S.pure s1) P1 hm fun H02 H2 s2 P2 => k H02 H2 (s1.trans (fun _ => P1.pa) s2) P2
  | false =>
    cases hm
    exact k H01 H1 s1 P1
theorem rt_or (h1 : Rt K cl t mt) (h2 : Rt K cl u mu) : Rt K cl (tOr t u) (tOr' mt mu) := by
  intro pa ρ σ H0 H F π c π' Q S P hm k
  obtain ⟨x, π1, e1, hm⟩ := mm_bind_some hm
  refine h1 pa ρ σ H0 H F π x π1 _ S P e1 fun H01 H1 s1 P1 => ?_
  cases x with
  | false =>
    show u σ H1 Q
    exact h2 pa ρ σ H01 H1 F π1 c π' Q (S.pure s1) P1 hm fun H02 H2 s2 P2 => k H02 H2 (s1.trans (fun _ => P1.pa) s2) P2
  | true =>
    cases hm
    exact k H01 H1 s1 P1
theorem rt_not (h1 : Rt K cl t mt) : Rt K cl (tNot t) (tNot' mt) := by
  intro pa ρ σ H0 H F π c π' Q S P hm k
  obtain ⟨x, π1, e1, hm⟩ := mm_bind_some hm
  cases hm
  exact h1 pa ρ σ H0 H F π x π' _ S P e1 fun H01 H1 s1 P1 => k H01 H1 s1 P1
def tYes' : Env → MM Bool := fun _ => pure true
theorem rt_yes : Rt K cl tYes tYes' := by
  intro pa ρ σ H0 H F π c π' Q S P hm k
  cases hm
  exact k H0 H (Pure.refl S.i0) P
/-- bools as values -/
def eAnd (ma mb : Env → MM D) : Env → MM D := fun ρ => do
  let x ← ma ρ
  match x with
  | .bl true => mb ρ
  | .bl false => pure (.bl false)
  | _ => fail
def eOr (ma mb : Env → MM D) : Env → MM D := fun ρ => do
  let x ← ma ρ
  match x with
  | .bl false => mb ρ
  | .bl true => pure (.bl true)
  | _ => fail
def eNot (ma : Env → MM D) : Env → MM D := fun ρ => do
  let x ← ma ρ
  match x with
  | .bl c => pure (.bl (!c))
  | _ => fail
theorem rf_and (h1 : Rf K cl bi ta ma) (h2 : Rf K cl b tb mb) : Rf K cl b (tAndV ta tb) (eAnd ma mb) := by
  intro pa ρ σ H0 H F π d π' Q S P h k
  obtain ⟨x, π1, e1, h⟩ := mm_bind_some h
  refine h1 pa ρ σ H0 H F π x π1 _ S P e1 fun v H01 H1 s1 P1 r1 => ?_
  cases x with
  | bl c =>
    simp only [Rep] at r1
    refine ⟨c, r1, ?_⟩
    cases c with
    | true => exact h2 pa ρ σ H01 H1 F π1 d π' Q (S.pure s1) P1 h (k.pre P1 s1)
    | false =>
      cases h
      exact (k.pre P1 s1).here s1.inn P1 (by simp only [Rep])
  | _ => cases h
theorem rf_or (h1 : Rf K cl bi ta ma) (h2 : Rf K cl b tb mb) : Rf K cl b (tOrV ta tb) (eOr ma mb) := by
  intro pa ρ σ H0 H F π d π' Q S P h k
  obtain ⟨x, π1, e1, h⟩ := mm_bind_some h
  refine h1 pa ρ σ H0 H F π x π1 _ S P e1 fun v H01 H1 s1 P1 r1 => ?_
  cases x with
  | bl c =>
    simp only [Rep] at r1
    refine ⟨c, r1, ?_⟩
    cases c with
    | false => exact h2 pa ρ σ H01 H1 F π1 d π' Q (S.pure s1) P1 h (k.pre P1 s1)
    | true =>
      cases h
      exact (k.pre P1 s1).here s1.inn P1 (by simp only [Rep])
  | _ => cases h
theorem rf_not (h1 : Rf K cl bi ta ma) : Rf K cl b (tNotV ta) (eNot ma) := by
  intro pa ρ σ H0 H F π d π' Q S P h k
  obtain ⟨x, π1, e1, h⟩ := mm_bind_some h
  refine h1 pa ρ σ H0 H F π x π1 _ S P e1 fun v H01 H1 s1 P1 r1 => ?_
  cases x with
  | bl c =>
    simp only [Rep] at r1
    cases h
    exact ⟨c, r1, (k.pre P1 s1).here s1.inn P1 (by simp only [Rep])⟩
  | _ => cases h
def eIf (mt : Env → MM Bool) (ma mb : Env → MM D) : Env → MM D := fun ρ => do
  let c ← mt ρ
  if c then ma ρ else mb ρ
theorem rf_if (h : Rt K cl t mt) (h1 : Rf K cl b ta ma) (h2 : Rf K cl b tb mb) : Rf K cl b (tIf t ta tb) (eIf mt ma mb) := by
  intro pa ρ σ H0 H F π d π' Q S P hm k
  obtain ⟨c, π1, e1, hm⟩ := mm_bind_some hm
  refine h pa ρ σ H0 H F π c π1 _ S P e1 fun H01 H1 s1 P1 => ?_
  cases c with
  | true => exact h1 pa ρ σ H01 H1 F π1 d π' Q (S.pure s1) P1 hm (k.pre P1 s1)
  | false => exact h2 pa ρ σ H01 H1 F π1 d π' Q (S.pure s1) P1 hm (k.pre P1 s1)

/-! ### arguments, displays -/
def aNil : Env → MM (List D) := fun _ => pure []
def aCons (ma : Env → MM D) (mr : Env → MM (List D)) : Env → MM (List D) := fun ρ => do
  let d ← ma ρ
  let ds ← mr ρ
  pure (d :: ds)
theorem ra_nil : Ra K cl b tNil aNil := by
  intro pa ρ σ H0 H F π ds π' Q S P hm k
  cases hm
  exact k [] H0 H (Pure.refl S.i0) P Reps.nil
theorem ra_cons (h1 : Rf K cl b ta ma) (h2 : Ra K cl b tg mg) : Ra K cl b (tCons ta tg) (aCons ma mg) := by
  intro pa ρ σ H0 H F π ds π' Q S P hm k
  obtain ⟨d, π1, e1, hm⟩ := mm_bind_some hm
  obtain ⟨es, π2, e2, hm⟩ := mm_bind_some hm
  cases hm
  refine h1 pa ρ σ H0 H F π d π1 _ S P e1 fun v H01 H1 s1 P1 r1 => ?_
  refine h2 pa ρ σ H01 H1 F π1 es π' _ (S.pure s1) P1 e2 fun vs H02 H2 s2 P2 r2 => ?_
  exact k (v :: vs) H02 H2 (s1.trans (fun _ => P1.pa) s2) P2 (.cons (Rep.mono (pick_mono s2) r1) r2)
/-- (a, b, ..) -/
def eTup (mg : Env → MM (List D)) : Env → MM D := fun ρ => do
  let ds ← mg ρ
  if ds.length ≤ 100000 then pure (.tup ds) else fail
theorem size_ok {n : Nat} (h : n ≤ 100000) : n ≤ sizeLine := Nat.le_trans h (by decide)
theorem rf_tup (h : Ra K cl b tg mg) : Rf K cl b (tTup tg) (eTup mg) := by
  intro pa ρ σ H0 H F π d π' Q S P hm k
  obtain ⟨ds, π1, e1, hm⟩ := mm_bind_some hm
  refine h pa ρ σ H0 H F π ds π1 _ S P e1 fun vs H01 H1 s1 P1 r1 => ?_
  by_cases hl : ds.length ≤ 100000
  · rw [if_pos hl] at hm
    cases hm
    refine ⟨size_ok (by rw [r1.length]; exact hl), fun p hp => ?_⟩
    obtain ⟨s2, P2, h2⟩ := alloc (o := .tup vs) s1.inn P1 hp
    refine k (.ref p) _ _ (s1.trans (fun _ => P1.pa) s2) P2 ?_
    simp only [Rep]
    exact ⟨p, vs, rfl, h2 b, Reps.mono (pick_mono s2) r1⟩
  · rw [if_neg hl] at hm; cases hm
/-- fresh lists of leafs -/
def oLst (mg : Env → MM (List D)) : Env → MM M := fun ρ => do
  let ds ← mg ρ
  if ds.length ≤ 100000 then pure (.lst (ds.map M.leaf)) else fail
theorem leafs {G : Gm} {H0 H : Hp} : ∀ {ds : List D} {vs : List V}, Reps G H0 ds vs → RepMs G H0 H (ds.map M.leaf) vs []
  | [], _, h => by simp only [Reps] at h; subst h; simp only [List.map_nil, RepMs]; exact ⟨trivial, trivial⟩
  | _ :: _, _, h => by
    obtain ⟨v, r, e, h1, h2⟩ := h.cases
    subst e
    simp only [List.map_cons, RepMs, RepM]
    exact ⟨v, r, [], [], rfl, rfl, ⟨h1, rfl⟩, leafs h2⟩
theorem leafs_toD : ∀ ds : List D, Ms.toDs (ds.map M.leaf) = ds
  | [] => by simp only [List.map_nil, Ms.toDs]
  | d :: ds => by simp only [List.map_cons, Ms.toDs, M.toD, leafs_toD ds]
theorem ro_lst (h : Ra K cl true tg mg) : Ro K cl (tLst tg) (oLst mg) := by
  intro pa ρ σ H0 H F π x π' Q S P hm k
  obtain ⟨ds, π1, e1, hm⟩ := mm_bind_some hm
  refine h pa ρ σ H0 H F π ds π1 _ S P e1 fun vs H01 H1 s1 P1 r1 => ?_
  by_cases hl : ds.length ≤ 100000
  · rw [if_pos hl] at hm
    cases hm
    refine ⟨size_ok (by rw [r1.length]; exact hl), fun p hp => ?_⟩
    obtain ⟨s2, P2⟩ := allocO (o := .lst vs) s1.inn P1 hp
    have hp0 : H p = none := by
      cases q : H p with
      | none => rfl
      | some o =>
        by_cases e : p = pa.a
        · subst e; exact absurd hp P1.pa
        · have := s1.all p o (by rw [hid_ne e]; exact q)
          rw [hid_ne e, hp] at this; cases this
    refine k (.ref p) _ _ [p] (s1.trans (fun _ => P1.pa) s2) P2 ?_ (by simp) (by simpa using hp0)
    simp only [RepM]
    exact ⟨p, vs, [], rfl, rfl, free0 s1.inn hp, ne_pa P1 hp, upd_same, leafs r1⟩
  · rw [if_neg hl] at hm; cases hm
/-- what is fresh may be frozen at once -/
def eFr (mo : Env → MM M) : Env → MM D := fun ρ => do
  let m ← mo ρ
  pure m.toD
theorem rf_fr {mo : Env → MM M} (h : Ro K cl te mo) : Rf K cl b te (eFr mo) := by
  intro pa ρ σ H0 H F π d π' Q S P hm k
  obtain ⟨m, π1, e1, hm⟩ := mm_bind_some hm
  cases hm
  refine h pa ρ σ H0 H F π m π' _ S P e1 fun v H01 H1 Fn s1 P1 r1 nd fr => ?_
  obtain ⟨f1, f2, f3⟩ := freeze s1.inn P1 r1.free
  refine k v (join H01 H1 Fn) H1 ⟨s1.fz.trans f1, s1.all, f2, fun c h1 h2 => ?_⟩ f3 ?_
  · unfold join
    by_cases hc : c ∈ Fn
    · exact absurd (fr c hc) h1
    · rw [if_neg hc]; exact s1.new c h1 h2
  · refine Rep.mono (pick_of0 f2) (RepM.toJ f1 r1 fun b hb => ?_)
    unfold join; rw [if_pos hb]
/-- a leaf -/
def oLeaf (me : Env → MM D) : Env → MM M := fun ρ => do
  let d ← me ρ
  pure (.leaf d)
theorem ro_leaf (h : Rf K cl true te me) : Ro K cl te (oLeaf me) := by
  intro pa ρ σ H0 H F π x π' Q S P hm k
  obtain ⟨d, π1, e1, hm⟩ := mm_bind_some hm
  cases hm
  exact h pa ρ σ H0 H F π d π' _ S P e1 fun v H01 H1 s1 P1 r1 => k v H01 H1 [] s1 P1 (by simp only [RepM]; exact ⟨r1, trivial⟩) List.nodup_nil (by simp)
end
end DL
set_option Elab.async false
set_option linter.all false
set_option maxRecDepth 100000
set_option maxHeartbeats 4000000
namespace DL
open PySem L2

/-! ### scalars -/
def D.scal : D → Bool
  | .non => true
  | .bl _ => true
  | .int _ => true
  | .str _ => true
  | _ => false
theorem Rep.scal {G : Gm} {H H' : Hp} {d : D} {v : V} (s : d.scal = true) (h : Rep G H d v) : Rep G H' d v := by
  cases d with
  | non => simpa only [Rep] using h
  | bl _ => simpa only [Rep] using h
  | int _ => simpa only [Rep] using h
  | str _ => simpa only [Rep] using h
  | _ => cases s

section
variable {K : PySem.W.Frag} {cl : Nat → Addr}
variable {b bi bo : Bool} {ta tb tc te : TE} {ma mb mc me : Env → MM D} {t u : TT} {mt mu : Env → MM Bool} {tg : TA} {mg : Env → MM (List D)}

/-- a borrowed value that turns out to be a scalar -/
def eScal (me : Env → MM D) : Env → MM D := fun ρ => do
  let d ← me ρ
  if d.scal then pure d else fail
theorem rf_scal (h : Rf K cl bi te me) : Rf K cl bo te (eScal me) := by
  intro pa ρ σ H0 H F π d π' Q S P hm k
  obtain ⟨x, π1, e1, hm⟩ := mm_bind_some hm
  refine h pa ρ σ H0 H F π x π1 _ S P e1 fun v H01 H1 s1 P1 r1 => ?_
  by_cases hs : x.scal = true
  · rw [if_pos hs] at hm
    cases hm
    exact k v H01 H1 s1 P1 (Rep.scal hs r1)
  · rw [if_neg hs] at hm; cases hm
theorem rf_borrow (h : Rf K cl true te me) : Rf K cl false te me := by
  intro pa ρ σ H0 H F π d π' Q S P hm k
  exact h pa ρ σ H0 H F π d π' _ S P hm fun v H01 H1 s1 P1 r1 => k v H01 H1 s1 P1 (Rep.mono s1.inn r1)

/-! ### data as the library's PyData -/
mutual
def toPy : D → Option PyData
  | .non => some .none
  | .bl b => some (.bool b)
  | .int i => some (.int i)
  | .str s => some (.str s)
  | .tup ds => (toPys ds).map .tuple
  | .lst ds => (toPys ds).map .list
  | .dK _ _ => none
  | .dT _ _ => none
  | .ins _ _ _ => none
  | .pen => none
  | .ty _ => none
  | .cls _ => none
def toPys : List D → Option (List PyData)
  | [] => some []
  | d :: ds => match toPy d, toPys ds with
    | some p, some ps => some (p :: ps)
    | _, _ => none
end
mutual
theorem Rep.dp {G : Gm} {H : Hp} : ∀ {d : D} {v : V} {p : PyData}, Rep G H d v → toPy d = some p → Dp G.K H v p
  | .non, _, _, h, e => by simp only [Rep] at h; simp only [toPy] at e; cases e; subst h; exact .non
  | .bl _, _, _, h, e => by simp only [Rep] at h; simp only [toPy] at e; cases e; subst h; exact .bl _
  | .int _, _, _, h, e => by simp only [Rep] at h; simp only [toPy] at e; cases e; subst h; exact .int _
  | .str _, _, _, h, e => by simp only [Rep] at h; simp only [toPy] at e; cases e; subst h; exact .str _
  | .tup ds, _, _, h, e => by
    simp only [Rep] at h
    simp only [toPy] at e
    obtain ⟨a, vs, h1, h2, h3⟩ := h
    cases q : toPys ds with
    | none => rw [q] at e; cases e
    | some ps =>
      rw [q] at e; cases e
      subst h1
      exact .tup (Or.inl (Or.inl h2)) (Reps.dp h3 q)
  | .lst ds, _, _, h, e => by
    simp only [Rep] at h
    simp only [toPy] at e
    obtain ⟨a, vs, h1, h2, h3⟩ := h
    cases q : toPys ds with
    | none => rw [q] at e; cases e
    | some ps =>
      rw [q] at e; cases e
      subst h1
      exact .lst (Or.inl (Or.inl h2)) (Reps.dp h3 q)
  | .dK _ _, _, _, _, e => by simp only [toPy] at e; cases e
  | .dT _ _, _, _, _, e => by simp only [toPy] at e; cases e
  | .ins _ _ _, _, _, _, e => by simp only [toPy] at e; cases e
  | .pen, _, _, _, e => by simp only [toPy] at e; cases e
  | .ty _, _, _, _, e => by simp only [toPy] at e; cases e
  | .cls _, _, _, _, e => by simp only [toPy] at e; cases e
theorem Reps.dp {G : Gm} {H : Hp} : ∀ {ds : List D} {vs : List V} {ps : List PyData}, Reps G H ds vs → toPys ds = some ps → DpAll G.K H vs ps
  | [], _, _, h, e => by simp only [Reps] at h; simp only [toPys] at e; cases e; subst h; exact .nil
  | d :: ds, _, _, h, e => by
    obtain ⟨v, r, q, h1, h2⟩ := h.cases
    subst q
    simp only [toPys] at e
    cases q1 : toPy d with
    | none => rw [q1] at e; cases e
    | some p =>
      cases q2 : toPys ds with
      | none => rw [q1, q2] at e; cases e
      | some ps =>
        rw [q1, q2] at e; cases e
        exact .cons (Rep.dp h1 q1) (Reps.dp h2 q2)
end
theorem dp_ex {K : PySem.W.Frag} {H H' : Hp} {v : V} {p : PyData} (e : Ex H H') (h : Dp K H v p) : Dp K H' v p := by
  refine Dp.rec (motive_1 := fun v p _ => Dp K H' v p) (motive_2 := fun vs ps _ => DpAll K H' vs ps) .non .bl .int .str ?_ ?_ .nil ?_ h
  · intro a xs ds h1 _ h2
    exact .lst (ex_l e h1) h2
  · intro a xs ds h1 _ h2
    exact .tup (ex_t e h1) h2
  · intro v vs d ds _ _ h1 h2
    exact .cons h1 h2
theorem Rep.dpH {G : Gm} {H0 H : Hp} {d : D} {v : V} {p : PyData} (i : Ex H0 (hid G H)) (h : Rep G (pick b H0 (hid G H)) d v) (e : toPy d = some p) : Dp G.K H v p :=
  dp_ex ((pick_to i).trans ex_hid) (Rep.dp h e)
def dEqB (x y : D) : Option Bool := match toPy x, toPy y with
  | some p, some q => if SeqAt.shaped p && SeqAt.shaped q then some (PyData.eqv p q) else none
  | _, _ => none
def dEq (x y : D) : Option D := (dEqB x y).map .bl
def dNe (x y : D) : Option D := (dEqB x y).map fun c => .bl (!c)
theorem dEqB_some {x y : D} {c : Bool} (h : dEqB x y = some c) : ∃ p q, toPy x = some p ∧ toPy y = some q ∧ SeqAt.shaped p = true ∧ SeqAt.shaped q = true ∧ c = PyData.eqv p q := by
  unfold dEqB at h
  cases h1 : toPy x with
  | none => rw [h1] at h; cases h
  | some p =>
    cases h2 : toPy y with
    | none => rw [h1, h2] at h; cases h
    | some q =>
      rw [h1, h2] at h
      by_cases hs : (SeqAt.shaped p && SeqAt.shaped q) = true
      · simp only [hs, if_true] at h
        cases h
        rw [Bool.and_eq_true] at hs
        exact ⟨p, q, rfl, rfl, hs.1, hs.2, rfl⟩
      · simp only [hs, if_false] at h
        cases h
theorem r2_eq : R2k K cl bi bo (rEqD K) dEq := by
  intro pa H0 H π x y dx dy d Q i P rx ry h k
  unfold dEq at h
  cases hc : dEqB dx dy with
  | none => rw [hc] at h; cases h
  | some c =>
    rw [hc] at h; cases h
    obtain ⟨p, q, h1, h2, h3, h4, rfl⟩ := dEqB_some hc
    exact ⟨p, q, rx.dpH i h1, ry.dpH i h2, h3, h4, k.here i P (by simp only [Rep])⟩
theorem r2_ne : R2k K cl bi bo (rNeD K) dNe := by
  intro pa H0 H π x y dx dy d Q i P rx ry h k
  unfold dNe at h
  cases hc : dEqB dx dy with
  | none => rw [hc] at h; cases h
  | some c =>
    rw [hc] at h; cases h
    obtain ⟨p, q, h1, h2, h3, h4, rfl⟩ := dEqB_some hc
    exact ⟨p, q, rx.dpH i h1, ry.dpH i h2, h3, h4, k.here i P (by simp only [Rep])⟩

/-! ### ints -/
def dI2 (f : Int → Int → Option D) : D → D → Option D
  | .int i, .int j => f i j
  | _, _ => none
theorem dI2_some {f : Int → Int → Option D} {x y d : D} (h : dI2 f x y = some d) : ∃ i j, x = .int i ∧ y = .int j ∧ f i j = some d := by
  cases x with
  | int i => cases y with
    | int j => exact ⟨i, j, rfl, rfl, h⟩
    | _ => cases h
  | _ => cases h
theorem r2_i0 {g : Int → Int → V} {e : Int → Int → D} (hg : ∀ G H i j, Rep G H (e i j) (g i j)) : R2k K cl bi bo (rI0 g) (dI2 fun i j => some (e i j)) := by
  intro pa H0 H π x y dx dy d Q i P rx ry h k
  obtain ⟨a, c, rfl, rfl, h⟩ := dI2_some h
  cases h
  simp only [Rep] at rx ry
  exact ⟨a, c, rx, ry, k.here i P (hg _ _ _ _)⟩
def dSub : D → D → Option D := dI2 fun i j => some (.int (i - j))
def dLt : D → D → Option D := dI2 fun i j => some (.bl (decide (i < j)))
def dLe : D → D → Option D := dI2 fun i j => some (.bl (decide (i ≤ j)))
def dGt : D → D → Option D := dI2 fun i j => some (.bl (decide (j < i)))
def dGe : D → D → Option D := dI2 fun i j => some (.bl (decide (j ≤ i)))
theorem r2_sub : R2k K cl bi bo (rI0 fun i j => .int (i - j)) dSub := r2_i0 (e := fun i j => .int (i - j)) fun _ _ _ _ => by simp only [Rep]
theorem r2_lt : R2k K cl bi bo (rI0 fun i j => .bl (decide (i < j))) dLt := r2_i0 (e := fun i j => .bl (decide (i < j))) fun _ _ _ _ => by simp only [Rep]
theorem r2_le : R2k K cl bi bo (rI0 fun i j => .bl (decide (i ≤ j))) dLe := r2_i0 (e := fun i j => .bl (decide (i ≤ j))) fun _ _ _ _ => by simp only [Rep]
theorem r2_gt : R2k K cl bi bo (rI0 fun i j => .bl (decide (j < i))) dGt := r2_i0 (e := fun i j => .bl (decide (j < i))) fun _ _ _ _ => by simp only [Rep]
theorem r2_ge : R2k K cl bi bo (rI0 fun i j => .bl (decide (j ≤ i))) dGe := r2_i0 (e := fun i j => .bl (decide (j ≤ i))) fun _ _ _ _ => by simp only [Rep]
theorem r2_i {C : Int → Int → Prop} {g : Int → Int → V} {f : Int → Int → Option D} (hg : ∀ G H i j d, f i j = some d → C i j ∧ Rep G H d (g i j)) : R2k K cl bi bo (rI C g) (dI2 f) := by
  intro pa H0 H π x y dx dy d Q i P rx ry h k
  obtain ⟨a, c, rfl, rfl, h⟩ := dI2_some h
  simp only [Rep] at rx ry
  exact ⟨a, c, rx, ry, (hg ⟨K, cl, pa⟩ H a c d h).1, k.here i P (hg _ _ _ _ _ h).2⟩
/-- a remainder, a quotient by a positive number -/
def dMod : D → D → Option D := dI2 fun i j => if 0 < j then some (.int (i % j)) else none
theorem r2_mod : R2k K cl bi bo (rI (fun _ j => 0 < j) fun i j => .int (i % j)) dMod := r2_i fun G H i j d h => by
  by_cases c : 0 < j
  · rw [if_pos c] at h; cases h
    exact ⟨c, by simp only [Rep]⟩
  · rw [if_neg c] at h; cases h
def dFdiv : D → D → Option D := dI2 fun i j => if 0 < j ∧ j < 2 ^ 64 then some (.int (i / j)) else none
theorem r2_fdiv : R2k K cl bi bo (rI CDivW fun i j => .int (i / j)) dFdiv := r2_i fun G H i j d h => by
  by_cases c : 0 < j ∧ j < 2 ^ 64
  · rw [if_pos c] at h; cases h
    exact ⟨wide_div (b := 64) c.1 (by omega) (by decide) (by decide), by simp only [Rep]⟩
  · rw [if_neg c] at h; cases h
def dPow : D → D → Option D := dI2 fun i j => if (0 ≤ j ∧ j ≤ 1000000) ∧ i.natAbs < 2 ^ 64 then some (.int (i ^ j.toNat)) else none
theorem r2_pow : R2k K cl bi bo (rI CPow fun i j => .int (i ^ j.toNat)) dPow := r2_i fun G H i j d h => by
  by_cases c : (0 ≤ j ∧ j ≤ 1000000) ∧ i.natAbs < 2 ^ 64
  · rw [if_pos c] at h; cases h
    exact ⟨⟨c.1.1, c.1.2, c.2⟩, by simp only [Rep]⟩
  · rw [if_neg c] at h; cases h

/-! ### + -/
def rAddA (K : PySem.W.Frag) : R2 := fun x y H Q => (∃ i j, x = .int i ∧ y = .int j ∧ Q (.int (i + j)) H) ∨ (∃ i j, x = .str i ∧ y = .str j ∧ i.length + j.length ≤ sizeLine ∧ Q (.str (i ++ j)) H) ∨ rCat x y H Q ∨ rCatA K x y H Q
theorem op_addA {X : Cx} : OpR X (binaryOp .Add) (rAddA X.K) := OpR.or op_add (OpR.or op_add_str (OpR.or op_cat op_catA))
def dAdd : D → D → Option D
  | .int i, .int j => some (.int (i + j))
  | .str a, .str c => if a.length + c.length ≤ 100000 then some (.str (a ++ c)) else none
  | .lst a, .lst c => if a.length + c.length ≤ 100000 then some (.lst (a ++ c)) else none
  | .tup a, .tup c => if a.length + c.length ≤ 100000 then some (.tup (a ++ c)) else none
  | _, _ => none
theorem r2_add : R2k K cl b b (rAddA K) dAdd := by
  intro pa H0 H π x y dx dy d Q i P rx ry h k
  cases dx with
  | int n => cases dy with
    | int m =>
      simp only [Rep] at rx ry
      cases h
      exact Or.inl ⟨n, m, rx, ry, k.here i P (by simp only [Rep])⟩
    | _ => cases h
  | str n => cases dy with
    | str m =>
      simp only [Rep] at rx ry
      simp only [dAdd] at h
      by_cases c : n.length + m.length ≤ 100000
      · rw [if_pos c] at h; cases h
        exact Or.inr (Or.inl ⟨n, m, rx, ry, size_ok c, k.here i P (by simp only [Rep])⟩)
      · rw [if_neg c] at h; cases h
    | _ => cases h
  | lst n => cases dy with
    | lst m =>
      simp only [Rep] at rx ry
      obtain ⟨p, xs, rfl, h1, h2⟩ := rx
      obtain ⟨q, ys, rfl, h3, h4⟩ := ry
      simp only [dAdd] at h
      by_cases c : n.length + m.length ≤ 100000
      · rw [if_pos c] at h; cases h
        have e := (pick_to (b := b) i).trans ex_hid
        refine Or.inr (Or.inr (Or.inl ⟨p, q, xs, ys, rfl, rfl, e _ _ h1, e _ _ h3, size_ok (by rw [h2.length, h4.length]; exact c), fun r hr => ?_⟩))
        obtain ⟨s2, P2, g2⟩ := alloc (o := .lst (xs ++ ys)) i P hr
        refine k (.ref r) _ _ s2 P2 ?_
        simp only [Rep]
        exact ⟨r, _, rfl, g2 b, (Reps.mono (pick_mono s2) h2).append (Reps.mono (pick_mono s2) h4)⟩
      · rw [if_neg c] at h; cases h
    | _ => cases h
  | tup n => cases dy with
    | tup m =>
      have rx0 := rx
      have ry0 := ry
      simp only [Rep] at rx ry
      obtain ⟨p, xs, rfl, h1, h2⟩ := rx
      obtain ⟨q, ys, rfl, h3, h4⟩ := ry
      simp only [dAdd] at h
      by_cases c : n.length + m.length ≤ 100000
      · rw [if_pos c] at h; cases h
        have e := (pick_to (b := b) i).trans ex_hid
        refine Or.inr (Or.inr (Or.inr ⟨p, q, xs, ys, rfl, rfl, Or.inl (Or.inl (e _ _ h1)), Or.inl (Or.inl (e _ _ h3)), size_ok (by rw [h2.length, h4.length]; exact c), fun z => ?_, fun z1 z2 => ?_, fun _ _ r hr => ?_⟩))
        · have : n = [] := by have := h2.length; rw [z] at this; exact List.length_eq_zero_iff.mp this.symm
          subst this
          exact k.here i P ry0
        · have : m = [] := by have := h4.length; rw [z2] at this; exact List.length_eq_zero_iff.mp this.symm
          subst this
          rw [List.append_nil] at k
          exact k.here i P rx0
        · obtain ⟨s2, P2, g2⟩ := alloc (o := .tup (xs ++ ys)) i P hr
          refine k (.ref r) _ _ s2 P2 ?_
          simp only [Rep]
          exact ⟨r, _, rfl, g2 b, (Reps.mono (pick_mono s2) h2).append (Reps.mono (pick_mono s2) h4)⟩
      · rw [if_neg c] at h; cases h
    | _ => cases h
  | _ => cases h
/-- sums of ints alone -/
def dAddI : D → D → Option D := dI2 fun i j => some (.int (i + j))
theorem r2_addI : R2k K cl bi bo (rI0 fun i j => .int (i + j)) dAddI := r2_i0 (e := fun i j => .int (i + j)) fun _ _ _ _ => by simp only [Rep]

/-! ### * -/
def rMulA (K : PySem.W.Frag) : R2 := fun x y H Q => (rI CMulW fun i j => .int (i * j)) x y H Q ∨ rRep x y H Q
theorem op_mulA {X : Cx} : OpR X (binaryOp .Mult) (rMulA X.K) := OpR.or op_mulW op_rep
def dMul : D → D → Option D
  | .int i, .int j => if i.natAbs < 2 ^ 100000 ∧ j.natAbs < 2 ^ 100000 then some (.int (i * j)) else none
  | .lst a, .int k => if k < 2 ^ 62 ∧ a.length * k.toNat ≤ 100000 ∧ -(2 ^ 62) < k then some (.lst (List.replicate k.toNat a).flatten) else none
  | _, _ => none
theorem Reps.rep {G : Gm} {H : Hp} {ds : List D} {vs : List V} (h : Reps G H ds vs) : ∀ n : Nat, Reps G H (List.replicate n ds).flatten (List.replicate n vs).flatten
  | 0 => by simpa using Reps.nil
  | n + 1 => by
    rw [List.replicate_succ, List.replicate_succ, List.flatten_cons, List.flatten_cons]
    exact h.append (Reps.rep h n)
theorem r2_mul : R2k K cl b b (rMulA K) dMul := by
  intro pa H0 H π x y dx dy d Q i P rx ry h k
  cases dx with
  | int n => cases dy with
    | int m =>
      simp only [Rep] at rx ry
      simp only [dMul] at h
      by_cases c : n.natAbs < 2 ^ 100000 ∧ m.natAbs < 2 ^ 100000
      · rw [if_pos c] at h; cases h
        exact Or.inl ⟨n, m, rx, ry, wide_mul (a := 100000) (b := 100000) c.1 c.2 (by decide) (by decide) (by decide), k.here i P (by simp only [Rep])⟩
      · rw [if_neg c] at h; cases h
    | _ => cases h
  | lst n => cases dy with
    | int m =>
      simp only [Rep] at rx ry
      obtain ⟨p, xs, rfl, h1, h2⟩ := rx
      simp only [dMul] at h
      by_cases c : m < 2 ^ 62 ∧ n.length * m.toNat ≤ 100000 ∧ -(2 ^ 62) < m
      · rw [if_pos c] at h; cases h
        have e := (pick_to (b := b) i).trans ex_hid
        refine Or.inr ⟨p, m, xs, rfl, ry, e _ _ h1, by omega, by omega, size_ok (by rw [h2.length]; exact c.2.1), fun r hr => ?_⟩
        obtain ⟨s2, P2, g2⟩ := alloc (o := .lst (List.replicate m.toNat xs).flatten) i P hr
        refine k (.ref r) _ _ s2 P2 ?_
        simp only [Rep]
        exact ⟨r, _, rfl, g2 b, Reps.rep (Reps.mono (pick_mono s2) h2) _⟩
      · rw [if_neg c] at h; cases h
    | _ => cases h
  | _ => cases h

/-! ### None -/
def isNon : D → Bool
  | .non => true
  | _ => false
theorem isNon_rep {G : Gm} {H : Hp} {d : D} {v : V} (h : Rep G H d v) : decide (v = .non) = isNon d := by
  cases d <;> simp only [Rep] at h <;> first | (subst h; simp [isNon]; done) | (obtain ⟨a, vs, rfl, _⟩ := h; simp [isNon]; done) | (obtain ⟨a, dx, vs, rfl, _⟩ := h; simp [isNon]; done)
def dIs (x y : D) : Option D := match y with
  | .non => some (.bl (isNon x))
  | _ => none
def dIsNot (x y : D) : Option D := match y with
  | .non => some (.bl (!isNon x))
  | _ => none
theorem r2_is : R2k K cl bi bo (fun x y H Q => y = .non ∧ Q (.bl (decide (x = .non))) H) dIs := by
  intro pa H0 H π x y dx dy d Q i P rx ry h k
  cases dy with
  | non =>
    cases h
    simp only [Rep] at ry
    exact ⟨ry, k.here i P (by rw [isNon_rep rx]; simp only [Rep])⟩
  | _ => cases h
theorem r2_isNot : R2k K cl bi bo (fun x y H Q => y = .non ∧ Q (.bl (!decide (x = .non))) H) dIsNot := by
  intro pa H0 H π x y dx dy d Q i P rx ry h k
  cases dy with
  | non =>
    cases h
    simp only [Rep] at ry
    exact ⟨ry, k.here i P (by rw [isNon_rep rx]; simp only [Rep])⟩
  | _ => cases h
end
end DL
set_option Elab.async false
set_option linter.all false
set_option maxRecDepth 100000
set_option maxHeartbeats 4000000
namespace DL
open PySem L2

/-! ### statements -/
inductive Out where
  | next (ρ : Env)
  | ret (d : D)
  | brk (ρ : Env)
  | cont (ρ : Env)

def PostOk (G : Gm) (F : List Addr) (H0 H : Hp) (E : Ends) (π' : Pen) : Out → Prop
  | .next ρ' => ∀ σ' H0' H' F', SA G ρ' σ' H0' H' F' → PenAt G π' H0' H' → Step G F H0 H F' H0' H' → E.nx σ' H'
  | .brk ρ' => ∀ σ' H0' H' F', SA G ρ' σ' H0' H' F' → PenAt G π' H0' H' → Step G F H0 H F' H0' H' → E.bk σ' H'
  | .cont ρ' => ∀ σ' H0' H' F', SA G ρ' σ' H0' H' F' → PenAt G π' H0' H' → Step G F H0 H F' H0' H' → E.ct σ' H'
  | .ret d => ∀ v H0' H', PenAt G π' H0' H' → Step G F H0 H [] H0' H' → Rep G H0' d v → E.rt v H'

def Rs (K : PySem.W.Frag) (cl : Nat → Addr) (ts : TS) (m : Env → MM Out) : Prop := ∀ (pa : PA) (ρ : Env) (σ : L2.St) (H0 H : Hp) (F : List Addr) (π : Pen) (o : Out) (π' : Pen) (E : Ends),
  SA ⟨K, cl, pa⟩ ρ σ H0 H F → PenAt ⟨K, cl, pa⟩ π H0 H → m ρ π = some (o, π') → PostOk ⟨K, cl, pa⟩ F H0 H E π' o → ts E σ H
/-- a target -/
def Rg (K : PySem.W.Frag) (cl : Nat → Addr) (g : TG) (f : D → Env → MM Env) : Prop := ∀ (pa : PA) (ρ : Env) (σ : L2.St) (H0 H : Hp) (F : List Addr) (π : Pen) (d : D) (v : V) (ρ' : Env) (π' : Pen) (Q : L2.St → Hp → Prop),
  SA ⟨K, cl, pa⟩ ρ σ H0 H F → PenAt ⟨K, cl, pa⟩ π H0 H → Rep ⟨K, cl, pa⟩ H0 d v → f d ρ π = some (ρ', π') →
  (∀ σ' H0' H' F', SA ⟨K, cl, pa⟩ ρ' σ' H0' H' F' → PenAt ⟨K, cl, pa⟩ π' H0' H' → Step ⟨K, cl, pa⟩ F H0 H F' H0' H' → Q σ' H') → g v σ H Q
def Rgs (K : PySem.W.Frag) (cl : Nat → Addr) (g : TGs) (f : List D → Env → MM Env) : Prop := ∀ (pa : PA) (ρ : Env) (σ : L2.St) (H0 H : Hp) (F : List Addr) (π : Pen) (ds : List D) (vs : List V) (ρ' : Env) (π' : Pen) (Q : L2.St → Hp → Prop),
  SA ⟨K, cl, pa⟩ ρ σ H0 H F → PenAt ⟨K, cl, pa⟩ π H0 H → Reps ⟨K, cl, pa⟩ H0 ds vs → f ds ρ π = some (ρ', π') →
  (∀ σ' H0' H' F', SA ⟨K, cl, pa⟩ ρ' σ' H0' H' F' → PenAt ⟨K, cl, pa⟩ π' H0' H' → Step ⟨K, cl, pa⟩ F H0 H F' H0' H' → Q σ' H') → g vs σ H Q

theorem Step.refl {G : Gm} {F : List Addr} {H0 H : Hp} (i : Ex H0 (hid G H)) : Step G F H0 H F H0 H := (Pure.refl i).step

theorem PostOk.pre {G : Gm} {F F1 : List Addr} {H0 H H01 H1 : Hp} {E : Ends} {π1 π' : Pen} {o : Out} (P : PenAt G π1 H01 H1) (s : Step G F H0 H F1 H01 H1) (k : PostOk G F H0 H E π' o) : PostOk G F1 H01 H1 E π' o := by
  cases o with
  | next ρ' => exact fun σ' H0' H' F' a b c => k σ' H0' H' F' a b (s.trans (fun _ => P.pa) c)
  | brk ρ' => exact fun σ' H0' H' F' a b c => k σ' H0' H' F' a b (s.trans (fun _ => P.pa) c)
  | cont ρ' => exact fun σ' H0' H' F' a b c => k σ' H0' H' F' a b (s.trans (fun _ => P.pa) c)
  | ret d => exact fun v H0' H' b c r => k v H0' H' b (s.trans (fun _ => P.pa) c) r

/-! ### a slot stored -/
theorem EnvOk.set {G : Gm} {H0 H : Hp} {x : Option V} {Fs : List Addr} {s : Sl} (hs : SlOk G H0 H x Fs s) (nd : Fs.Nodup) : ∀ {ρ : Env} {σ : L2.St} {F : List Addr} (i : Nat), EnvOk G H0 H ρ σ F → F.Nodup → (∀ b ∈ Fs, b ∉ F) →
    ∃ F', EnvOk G H0 H (ρ.set i s) (σ.set i x) F' ∧ F'.Nodup ∧ ∀ b ∈ F', b ∈ F ∨ b ∈ Fs
  | [], σ, F, i, h, hn, _ => by
    obtain ⟨e1, e2⟩ := h
    subst e1 e2
    exact ⟨[], ⟨rfl, rfl⟩, List.nodup_nil, by simp⟩
  | s0 :: ρ, _, _, 0, h, hn, ha => by
    obtain ⟨x0, σ', F1, F2, h1, h2, h3, h4⟩ := h
    subst h1 h2
    rw [List.nodup_append] at hn
    refine ⟨Fs ++ F2, ⟨x, σ', Fs, F2, rfl, rfl, hs, h4⟩, ?_, fun b hb => ?_⟩
    · rw [List.nodup_append]
      exact ⟨nd, hn.2.1, fun a h5 c h6 e => ha a h5 (by rw [e]; exact List.mem_append_right _ h6)⟩
    · rcases List.mem_append.mp hb with z | z
      · exact Or.inr z
      · exact Or.inl (List.mem_append_right _ z)
  | s0 :: ρ, _, _, i + 1, h, hn, ha => by
    obtain ⟨x0, σ', F1, F2, h1, h2, h3, h4⟩ := h
    subst h1 h2
    rw [List.nodup_append] at hn
    obtain ⟨F', g1, g2, g3⟩ := EnvOk.set hs nd i h4 hn.2.1 (fun b hb z => ha b hb (List.mem_append_right _ z))
    refine ⟨F1 ++ F', ⟨x0, _, F1, F', rfl, rfl, h3, g1⟩, ?_, fun b hb => ?_⟩
    · rw [List.nodup_append]
      refine ⟨hn.1, g2, fun a h5 c h6 e => ?_⟩
      rcases g3 c h6 with z | z
      · exact hn.2.2 a h5 c z e
      · exact ha c z (by rw [← e]; exact List.mem_append_left _ h5)
    · rcases List.mem_append.mp hb with z | z
      · exact Or.inl (List.mem_append_left _ z)
      · rcases g3 b z with y | y
        · exact Or.inl (List.mem_append_right _ y)
        · exact Or.inr y
theorem SA.set {G : Gm} {ρ : Env} {σ : L2.St} {H0 H : Hp} {F Fs : List Addr} {x : Option V} {s : Sl} (S : SA G ρ σ H0 H F) (i : Nat) (hs : SlOk G H0 H x Fs s) (nd : Fs.Nodup) (ha : ∀ b ∈ Fs, b ∉ F) :
    ∃ F', SA G (ρ.set i s) (σ.set i x) H0 H F' ∧ ∀ b ∈ F', b ∈ F ∨ b ∈ Fs := by
  obtain ⟨F', h1, h2, h3⟩ := EnvOk.set hs nd i S.env S.nd ha
  exact ⟨F', ⟨S.i0, h1, h2⟩, h3⟩
theorem step_sub {G : Gm} {F F' Fn : List Addr} {H0 H H0' H' : Hp} (s : Pure G H0 H H0' H') (f : ∀ b ∈ F', b ∈ F ∨ b ∈ Fn) (n : ∀ b ∈ Fn, H b = none) : Step G F H0 H F' H0' H' :=
  ⟨s.fz, fun b o _ hb h => by
    have := s.all b o (by rw [hid_ne hb]; exact h)
    rw [hid_ne hb] at this; exact this, s.inn, fun b _ h1 h2 => s.new b h1 h2, fun b h => (f b h).imp id (n b)⟩

section
variable {K : PySem.W.Frag} {cl : Nat → Addr}
variable {b bi bo : Bool} {ta tb tc te : TE} {ma mb mc me : Env → MM D} {t u : TT} {mt mu : Env → MM Bool} {tg : TA} {mg : Env → MM (List D)} {t1 t2 : TS} {m1 m2 : Env → MM Out}

def sNext : Env → MM Out := fun ρ => pure (.next ρ)
theorem rs_next : Rs K cl tNext sNext := by
  intro pa ρ σ H0 H F π o π' E S P h k
  cases h
  exact k σ H0 H F S P (Step.refl S.i0)
def sSeq (m1 m2 : Env → MM Out) : Env → MM Out := fun ρ => do
  let o ← m1 ρ
  match o with
  | .next ρ' => m2 ρ'
  | o => pure o
theorem rs_seq (h1 : Rs K cl t1 m1) (h2 : Rs K cl t2 m2) : Rs K cl (tSeq t1 t2) (sSeq m1 m2) := by
  intro pa ρ σ H0 H F π o π' E S P h k
  obtain ⟨o1, π1, e1, h⟩ := mm_bind_some h
  refine h1 pa ρ σ H0 H F π o1 π1 _ S P e1 ?_
  cases o1 with
  | next ρ' => exact fun σ' H0' H' F' S' P' s' => h2 pa ρ' σ' H0' H' F' π1 o π' E S' P' h (k.pre P' s')
  | ret d => cases h; exact k
  | brk ρ' => cases h; exact k
  | cont ρ' => cases h; exact k
def sRet (me : Env → MM D) : Env → MM Out := fun ρ => do
  let d ← me ρ
  pure (.ret d)
theorem step_ret {G : Gm} {F : List Addr} {H0 H H0' H' : Hp} (s : Pure G H0 H H0' H') : Step G F H0 H [] H0' H' := step_sub (Fn := []) s (by simp) (by simp)
theorem rs_ret (h : Rf K cl true te me) : Rs K cl (tRet te) (sRet me) := by
  intro pa ρ σ H0 H F π o π' E S P hm k
  obtain ⟨d, π1, e1, hm⟩ := mm_bind_some hm
  cases hm
  exact h pa ρ σ H0 H F π d π' _ S P e1 fun v H01 H1 s1 P1 r1 => k v H01 H1 P1 (step_ret s1) r1
def sRetN : Env → MM Out := fun _ => pure (.ret .non)
theorem rs_retN : Rs K cl tRetN sRetN := by
  intro pa ρ σ H0 H F π o π' E S P hm k
  cases hm
  exact k .non H0 H P (step_ret (Pure.refl S.i0)) (by simp only [Rep])
def sDrop (me : Env → MM D) : Env → MM Out := fun ρ => do
  let _ ← me ρ
  pure (.next ρ)
theorem rs_drop (h : Rf K cl b te me) : Rs K cl (tDrop te) (sDrop me) := by
  intro pa ρ σ H0 H F π o π' E S P hm k
  obtain ⟨d, π1, e1, hm⟩ := mm_bind_some hm
  cases hm
  exact h pa ρ σ H0 H F π d π' _ S P e1 fun v H01 H1 s1 P1 r1 => k σ H01 H1 F (S.pure s1) P1 s1.step
def sAsg (i : Nat) (me : Env → MM D) : Env → MM Out := fun ρ => do
  let d ← me ρ
  pure (.next (ρ.set i (.sh d)))
theorem rs_asg {i : Nat} (h : Rf K cl true te me) : Rs K cl (tAsg te (gName i)) (sAsg i me) := by
  intro pa ρ σ H0 H F π o π' E S P hm k
  obtain ⟨d, π1, e1, hm⟩ := mm_bind_some hm
  cases hm
  refine h pa ρ σ H0 H F π d π' _ S P e1 fun v H01 H1 s1 P1 r1 => ?_
  obtain ⟨F', S', f'⟩ := (S.pure s1).set i (x := some v) (Fs := []) (s := .sh d) ⟨rfl, v, rfl, r1⟩ List.nodup_nil (by simp)
  exact k _ H01 H1 F' S' P1 (step_sub (Fn := []) s1 f' (by simp))
/-- a fresh thing that this frame goes on to own -/
def sOwn (i : Nat) (mo : Env → MM M) : Env → MM Out := fun ρ => do
  let m ← mo ρ
  pure (.next (ρ.set i (.ow m)))
theorem rs_own {i : Nat} {mo : Env → MM M} (h : Ro K cl te mo) : Rs K cl (tAsg te (gName i)) (sOwn i mo) := by
  intro pa ρ σ H0 H F π o π' E S P hm k
  obtain ⟨m, π1, e1, hm⟩ := mm_bind_some hm
  cases hm
  refine h pa ρ σ H0 H F π m π' _ S P e1 fun v H01 H1 Fn s1 P1 r1 nd fr => ?_
  have hF : ∀ c ∈ F, H c ≠ none := fun c hc => (S.env.free c hc).2.2
  obtain ⟨F', S', f'⟩ := (S.pure s1).set i (x := some v) (Fs := Fn) (s := .ow m) ⟨v, rfl, r1⟩ nd (fun c h1 h2 => hF c h2 (fr c h1))
  exact k _ H01 H1 F' S' P1 (step_sub (Fn := Fn) s1 f' fr)
def sIf (mt : Env → MM Bool) (m1 m2 : Env → MM Out) : Env → MM Out := fun ρ => do
  let c ← mt ρ
  if c then m1 ρ else m2 ρ
theorem rs_if (h : Rt K cl t mt) (h1 : Rs K cl t1 m1) (h2 : Rs K cl t2 m2) : Rs K cl (tIfS t t1 t2) (sIf mt m1 m2) := by
  intro pa ρ σ H0 H F π o π' E S P hm k
  obtain ⟨c, π1, e1, hm⟩ := mm_bind_some hm
  refine h pa ρ σ H0 H F π c π1 _ S P e1 fun H01 H1 s1 P1 => ?_
  cases c with
  | true => exact h1 pa ρ σ H01 H1 F π1 o π' E (S.pure s1) P1 hm (k.pre P1 s1.step)
  | false => exact h2 pa ρ σ H01 H1 F π1 o π' E (S.pure s1) P1 hm (k.pre P1 s1.step)
def sNever : Env → MM Out := fun _ => fail
theorem rs_never : Rs K cl tNever sNever := by
  intro pa ρ σ H0 H F π o π' E S P hm k
  cases hm
def sBrk : Env → MM Out := fun ρ => pure (.brk ρ)
def sCont : Env → MM Out := fun ρ => pure (.cont ρ)
theorem rs_brk : Rs K cl tBreak sBrk := by
  intro pa ρ σ H0 H F π o π' E S P hm k
  cases hm
  exact k σ H0 H F S P (Step.refl S.i0)
theorem rs_cont : Rs K cl tCont sCont := by
  intro pa ρ σ H0 H F π o π' E S P hm k
  cases hm
  exact k σ H0 H F S P (Step.refl S.i0)

/-! ### an owned slot is frozen -/
def frz (i : Nat) (ρ : Env) : Env := match ρ[i]? with
  | some (.ow m) => ρ.set i (.sh m.toD)
  | _ => ρ
theorem EnvOk.frz {G : Gm} {H0 H : Hp} {m : M} : ∀ {ρ : Env} {σ : L2.St} {F : List Addr} {i : Nat}, Ex H0 (hid G H) → EnvOk G H0 H ρ σ F → F.Nodup → ρ[i]? = some (.ow m) →
    ∃ Fi F', (∀ c ∈ Fi, H0 c = none ∧ c ≠ G.pa ∧ H c ≠ none) ∧ EnvOk G (join H0 H Fi) H (ρ.set i (.sh m.toD)) σ F' ∧ F'.Nodup ∧ (∀ c ∈ F', c ∈ F ∧ c ∉ Fi) ∧ (∀ c ∈ Fi, c ∈ F)
  | [], _, _, _, _, _, _, e => by simp at e
  | s0 :: ρ, _, _, 0, i0, h, hn, e => by
    obtain ⟨x0, σ', F1, F2, h1, h2, h3, h4⟩ := h
    subst h1 h2
    simp at e; subst e
    obtain ⟨v, g1, g2⟩ := h3
    rw [List.nodup_append] at hn
    have fr := g2.free
    have e1 := join_ex (G := G) (H := H) (fun c hc => (fr c hc).1)
    refine ⟨F1, F2, fr, ⟨x0, σ', [], F2, rfl, rfl, ⟨rfl, v, g1, RepM.toJ e1 g2 fun c hc => by unfold join; rw [if_pos hc]⟩, ?_⟩, hn.2.1, fun c hc => ⟨List.mem_append_right _ hc, fun z => hn.2.2 c z c hc rfl⟩, fun c hc => List.mem_append_left _ hc⟩
    refine h4.keep e1 (fun _ _ _ _ z => z) fun c hc _ z => ?_
    unfold join
    rw [if_neg (fun y => hn.2.2 c y c hc rfl)]; exact z
  | s0 :: ρ, _, _, i + 1, i0, h, hn, e => by
    obtain ⟨x0, σ', F1, F2, h1, h2, h3, h4⟩ := h
    subst h1 h2
    rw [List.nodup_append] at hn
    obtain ⟨Fi, F', g1, g2, g3, g4, g5⟩ := EnvOk.frz (i := i) i0 h4 hn.2.1 (by simpa using e)
    have e1 := join_ex (G := G) (H := H) (fun c hc => (g1 c hc).1)
    refine ⟨Fi, F1 ++ F', g1, ⟨x0, σ', F1, F', rfl, rfl, ?_, g2⟩, ?_, fun c hc => ?_, fun c hc => List.mem_append_right _ (g5 c hc)⟩
    · refine h3.keep e1 (fun _ _ _ _ z => z) fun c hc _ z => ?_
      unfold join
      rw [if_neg (fun y => hn.2.2 c hc c (g5 c y) rfl)]; exact z
    · rw [List.nodup_append]
      exact ⟨hn.1, g3, fun a h5 c h6 e => hn.2.2 a h5 c (g4 c h6).1 e⟩
    · rcases List.mem_append.mp hc with z | z
      · exact ⟨List.mem_append_left _ z, fun y => hn.2.2 c z c (g5 c y) rfl⟩
      · exact ⟨List.mem_append_right _ (g4 c z).1, (g4 c z).2⟩
theorem SA.frz {G : Gm} {ρ : Env} {σ : L2.St} {H0 H : Hp} {F : List Addr} {π : Pen} (i : Nat) (S : SA G ρ σ H0 H F) (P : PenAt G π H0 H) :
    ∃ H0' F', SA G (frz i ρ) σ H0' H F' ∧ PenAt G π H0' H ∧ Step G F H0 H F' H0' H := by
  unfold DL.frz
  cases e : ρ[i]? with
  | none => exact ⟨H0, F, S, P, Step.refl S.i0⟩
  | some s =>
    cases s with
    | un => exact ⟨H0, F, S, P, Step.refl S.i0⟩
    | sh d => exact ⟨H0, F, S, P, Step.refl S.i0⟩
    | ow m =>
      obtain ⟨Fi, F', g1, g2, g3, g4, g5⟩ := S.env.frz S.i0 S.nd e
      obtain ⟨f1, f2, f3⟩ := freeze S.i0 P g1
      refine ⟨join H0 H Fi, F', ⟨f2, g2, g3⟩, f3, f1, fun _ _ _ _ h => h, f2, fun c h1 h2 h3 => ?_, fun c hc => Or.inl (g4 c hc).1⟩
      unfold join
      rw [if_neg (fun y => h1 (g5 c y))]; exact h3
def sFrz (i : Nat) (m : Env → MM Out) : Env → MM Out := fun ρ => m (frz i ρ)
theorem rs_frz (i : Nat) (h : Rs K cl t1 m1) : Rs K cl t1 (sFrz i m1) := by
  intro pa ρ σ H0 H F π o π' E S P hm k
  obtain ⟨H0', F', S', P', s'⟩ := S.frz i P
  exact h pa _ σ H0' H F' π o π' E S' P' hm (k.pre P' s')

/-! ### targets -/
def gNm (i : Nat) : D → Env → MM Env := fun d ρ => pure (ρ.set i (.sh d))
theorem rg_name {i : Nat} : Rg K cl (gName i) (gNm i) := by
  intro pa ρ σ H0 H F π d v ρ' π' Q S P r h k
  cases h
  obtain ⟨F', S', f'⟩ := S.set i (x := some v) (Fs := []) (s := .sh d) ⟨rfl, v, rfl, r⟩ List.nodup_nil (by simp)
  exact k _ H0 H F' S' P (step_sub (Fn := []) (Pure.refl S.i0) f' (by simp))
def gsN : List D → Env → MM Env := fun ds ρ => match ds with
  | [] => pure ρ
  | _ => fail
def gsC (f : D → Env → MM Env) (g : List D → Env → MM Env) : List D → Env → MM Env := fun ds ρ => match ds with
  | [] => fail
  | d :: r => do
    let ρ1 ← f d ρ
    g r ρ1
theorem rgs_nil : Rgs K cl gNil gsN := by
  intro pa ρ σ H0 H F π ds vs ρ' π' Q S P r h k
  cases ds with
  | nil =>
    cases h
    simp only [Reps] at r
    exact ⟨r, k σ H0 H F S P (Step.refl S.i0)⟩
  | cons d ds => cases h
theorem rgs_cons {g : TG} {gs : TGs} {f : D → Env → MM Env} {fs : List D → Env → MM Env} (h1 : Rg K cl g f) (h2 : Rgs K cl gs fs) : Rgs K cl (gCons g gs) (gsC f fs) := by
  intro pa ρ σ H0 H F π ds vs ρ' π' Q S P r h k
  cases ds with
  | nil => cases h
  | cons d ds =>
    obtain ⟨v, vr, e, r1, r2⟩ := r.cases
    subst e
    obtain ⟨ρ1, π1, e1, h⟩ := mm_bind_some h
    refine ⟨v, vr, rfl, h1 pa ρ σ H0 H F π d v ρ1 π1 _ S P r1 e1 fun σ1 H01 H1 F1 S1 P1 s1 => ?_⟩
    exact h2 pa ρ1 σ1 H01 H1 F1 π1 ds vr ρ' π' Q S1 P1 (Reps.mono s1.fz r2) h fun σ2 H02 H2 F2 S2 P2 s2 => k σ2 H02 H2 F2 S2 P2 (s1.trans (fun _ => P1.pa) s2)
def gTp (n : Nat) (f : List D → Env → MM Env) : D → Env → MM Env := fun d ρ => match d with
  | .tup ds => if ds.length = n then f ds ρ else fail
  | _ => fail
theorem rg_tup {n : Nat} {gs : TGs} {fs : List D → Env → MM Env} (h2 : Rgs K cl gs fs) : Rg K cl (gTup K n gs) (gTp n fs) := by
  intro pa ρ σ H0 H F π d v ρ' π' Q S P r h k
  cases d with
  | tup ds =>
    simp only [gTp] at h
    simp only [Rep] at r
    obtain ⟨a, vs, e, r1, r2⟩ := r
    by_cases hl : ds.length = n
    · rw [if_pos hl] at h
      exact ⟨a, vs, e, Or.inl (Or.inl (hid_some (S.i0 _ _ r1)).2), by rw [r2.length]; exact hl, h2 pa ρ σ H0 H F π ds vs ρ' π' Q S P r2 h k⟩
    · rw [if_neg hl] at h; cases h
  | _ => cases h
def sAsgG (f : D → Env → MM Env) (me : Env → MM D) : Env → MM Out := fun ρ => do
  let d ← me ρ
  let ρ1 ← f d ρ
  pure (.next ρ1)
theorem rs_asgG {g : TG} {f : D → Env → MM Env} (h : Rf K cl true te me) (hg : Rg K cl g f) : Rs K cl (tAsg te g) (sAsgG f me) := by
  intro pa ρ σ H0 H F π o π' E S P hm k
  obtain ⟨d, π1, e1, hm⟩ := mm_bind_some hm
  obtain ⟨ρ1, π2, e2, hm⟩ := mm_bind_some hm
  cases hm
  refine h pa ρ σ H0 H F π d π1 _ S P e1 fun v H01 H1 s1 P1 r1 => ?_
  exact hg pa ρ σ H01 H1 F π1 d v ρ1 π' _ (S.pure s1) P1 r1 e2 fun σ2 H02 H2 F2 S2 P2 s2 => k σ2 H02 H2 F2 S2 P2 (s1.step.trans (fun _ => P1.pa) s2)
/-- a, b = x, y -/
def sPar (i j : Nat) (mg : Env → MM (List D)) : Env → MM Out := fun ρ => do
  let ds ← mg ρ
  match ds with
  | [d, e] => pure (.next ((ρ.set i (.sh d)).set j (.sh e)))
  | _ => fail
theorem rs_par {i j : Nat} (h : Ra K cl true tg mg) : Rs K cl (tPar i j tg) (sPar i j mg) := by
  intro pa ρ σ H0 H F π o π' E S P hm k
  obtain ⟨ds, π1, e1, hm⟩ := mm_bind_some hm
  refine h pa ρ σ H0 H F π ds π1 _ S P e1 fun vs H01 H1 s1 P1 r1 => ?_
  match ds, hm, r1 with
  | [d, e], hm, r1 =>
    cases hm
    obtain ⟨v, vr, q1, r2, r3⟩ := r1.cases
    obtain ⟨w, wr, q2, r4, r5⟩ := r3.cases
    simp only [Reps] at r5
    subst q1 q2 r5
    obtain ⟨F', S', f'⟩ := (S.pure s1).set i (x := some v) (Fs := []) (s := .sh d) ⟨rfl, v, rfl, r2⟩ List.nodup_nil (by simp)
    obtain ⟨F'', S'', f''⟩ := S'.set j (x := some w) (Fs := []) (s := .sh e) ⟨rfl, w, rfl, r4⟩ List.nodup_nil (by simp)
    refine ⟨v, w, rfl, k _ H01 H1 F'' S'' P1 (step_sub (Fn := []) s1 (fun c hc => ?_) (by simp))⟩
    rcases f'' c hc with z | z
    · exact f' c z
    · exact Or.inr z
  | [], hm, _ => cases hm
  | [_], hm, _ => cases hm
  | _ :: _ :: _ :: _, hm, _ => cases hm
end
end DL
set_option Elab.async false
set_option linter.all false
set_option maxRecDepth 100000
set_option maxHeartbeats 4000000
namespace DL
open PySem L2

/-! ### all that is owned, borrowed for one expression -/
def shd : Sl → Sl
  | .ow m => .sh m.toD
  | s => s
def allSh (ρ : Env) : Env := ρ.map shd
theorem EnvOk.allSh {G : Gm} {H0 H : Hp} (i : Ex H0 (hid G H)) : ∀ {ρ : Env} {σ : L2.St} {F : List Addr}, EnvOk G H0 H ρ σ F → EnvOk G (hid G H) H (allSh ρ) σ []
  | [], _, _, h => ⟨h.1, rfl⟩
  | s :: ρ, _, _, h => by
    obtain ⟨x, σ', F1, F2, h1, h2, h3, h4⟩ := h
    refine ⟨x, σ', [], [], h1, rfl, ?_, EnvOk.allSh i h4⟩
    cases s with
    | un => rfl
    | sh d =>
      obtain ⟨_, v, g1, g2⟩ := h3
      exact ⟨rfl, v, g1, Rep.mono i g2⟩
    | ow m =>
      obtain ⟨v, g1, g2⟩ := h3
      exact ⟨rfl, v, g1, RepM.toD i g2⟩
theorem SA.allSh {G : Gm} {ρ : Env} {σ : L2.St} {H0 H : Hp} {F : List Addr} (S : SA G ρ σ H0 H F) : SA G (allSh ρ) σ (hid G H) H [] := ⟨Ex.refl _, S.env.allSh S.i0, List.nodup_nil⟩
theorem PenAt.hid {G : Gm} {π : Pen} {H0 H : Hp} (i : Ex H0 (hid G H)) (P : PenAt G π H0 H) : PenAt G π (DL.hid G H) H := ⟨i _ _ P.cs, P.at_⟩
theorem V.ints_inj : ∀ {a c : List Int}, a.map V.int = c.map V.int → a = c
  | [], [], _ => rfl
  | [], _ :: _, h => by simp at h
  | _ :: _, [], h => by simp at h
  | x :: a, y :: c, h => by
    simp only [List.map_cons, List.cons.injEq, V.int.injEq] at h
    rw [h.1, V.ints_inj h.2]
/-- back from the borrowed heap -/
theorem unborrow {G : Gm} {π π' : Pen} {H0 H H0' H' : Hp} (i : Ex H0 (hid G H)) (P : PenAt G π H0 H) (s : Pure G (hid G H) H H0' H') (P' : PenAt G π' H0' H') : Pure G H0 H H0 H' ∧ PenAt G π' H0 H' := by
  refine ⟨⟨Ex.refl _, s.all, i.trans s.all, fun _ _ z => z⟩, ?_, P'.at_⟩
  have h1 := s.fz _ _ (i _ _ P.cs)
  rw [P'.cs] at h1
  have h2 := HO.lst.inj (Option.some.inj h1)
  rw [V.ints_inj h2]
  exact P.cs

section
variable {K : PySem.W.Frag} {cl : Nat → Addr}
variable {b bi bo : Bool} {ta tb tc te : TE} {ma mb mc me : Env → MM D} {t u : TT} {mt mu : Env → MM Bool} {tg : TA} {mg : Env → MM (List D)} {t1 t2 : TS} {m1 m2 : Env → MM Out}

/-- an expression that reads what is owned; its value is a scalar -/
def eAll (me : Env → MM D) : Env → MM D := fun ρ => do
  let d ← me (allSh ρ)
  if d.scal then pure d else fail
theorem rf_all (h : Rf K cl true te me) : Rf K cl b te (eAll me) := by
  intro pa ρ σ H0 H F π d π' Q S P hm k
  obtain ⟨x, π1, e1, hm⟩ := mm_bind_some hm
  refine h pa _ σ _ H [] π x π1 _ S.allSh (P.hid S.i0) e1 fun v H01 H1 s1 P1 r1 => ?_
  obtain ⟨s2, P2⟩ := unborrow S.i0 P s1 P1
  by_cases hs : x.scal = true
  · rw [if_pos hs] at hm
    cases hm
    exact k v H0 H1 s2 P2 (Rep.scal hs r1)
  · rw [if_neg hs] at hm; cases hm
def tAll (mt : Env → MM Bool) : Env → MM Bool := fun ρ => mt (allSh ρ)
theorem rt_all (h : Rt K cl t mt) : Rt K cl t (tAll mt) := by
  intro pa ρ σ H0 H F π c π' Q S P hm k
  refine h pa _ σ _ H [] π c π' _ S.allSh (P.hid S.i0) hm fun H01 H1 s1 P1 => ?_
  obtain ⟨s2, P2⟩ := unborrow S.i0 P s1 P1
  exact k H0 H1 s2 P2

/-! ### what is walked -/
structure Wk (G : Gm) (J : It) (ds : List D) (B : Hp) : Prop where
  stop : ∀ H0' H', Ex H0' (hid G H') → Ex B H0' → J.stop ds.length H'
  go : ∀ (i : Nat) d H0' H' π, ds[i]? = some d → Ex H0' (hid G H') → Ex B H0' → PenAt G π H0' H' → J.go i H' ∧ ∀ x H'', J.yld i H' x H'' → ∃ H0'', Pure G H0' H' H0'' H'' ∧ PenAt G π H0'' H'' ∧ Rep G H0'' d x
def Ri (K : PySem.W.Frag) (cl : Nat → Addr) (wi : TI) (it : Env → MM (List D)) : Prop := ∀ (pa : PA) (ρ : Env) (σ : L2.St) (H0 H : Hp) (F : List Addr) (π : Pen) (ds : List D) (π' : Pen) (R : It → Hp → Prop),
  SA ⟨K, cl, pa⟩ ρ σ H0 H F → PenAt ⟨K, cl, pa⟩ π H0 H → it ρ π = some (ds, π') →
  (∀ J H0' H', Pure ⟨K, cl, pa⟩ H0 H H0' H' → PenAt ⟨K, cl, pa⟩ π' H0' H' → Wk ⟨K, cl, pa⟩ J ds H0' → R J H') → wi σ H R
def itL (me : Env → MM D) : Env → MM (List D) := fun ρ => do
  let d ← me ρ
  match d with
  | .lst ds => pure ds
  | _ => fail
theorem wk_list {G : Gm} {B : Hp} {a : Addr} {vs : List V} {ds : List D} (h : B a = some (.lst vs)) (r : Reps G B ds vs) : Wk G (Itl G.K a) ds B := by
  have at' : ∀ {H0' H' : Hp}, Ex H0' (hid G H') → Ex B H0' → H' a = some (.lst vs) := fun e1 e2 => (hid_some (e1 _ _ (e2 _ _ h))).2
  refine ⟨fun H0' H' e1 e2 => ⟨vs, Or.inl (Or.inl (at' e1 e2)), Nat.le_of_eq r.length⟩, fun i d H0' H' π hd e1 e2 P => ?_⟩
  obtain ⟨v, hv, rv⟩ := r.get hd
  refine ⟨⟨vs, v, Or.inl (Or.inl (at' e1 e2)), hv⟩, fun x H'' hy => ?_⟩
  obtain ⟨e, hy⟩ := hy
  subst e
  have := hy vs (Or.inl (Or.inl (at' e1 e2)))
  rw [hv] at this
  cases this
  exact ⟨H0', Pure.refl e1, P, Rep.mono e2 rv⟩
theorem ri_list (h : Rf K cl true te me) : Ri K cl (iList K te) (itL me) := by
  intro pa ρ σ H0 H F π ds π' R S P hm k
  obtain ⟨d, π1, e1, hm⟩ := mm_bind_some hm
  refine h pa ρ σ H0 H F π d π1 _ S P e1 fun v H01 H1 s1 P1 r1 => ?_
  cases d with
  | lst es =>
    cases hm
    simp only [Rep, pick, if_true] at r1
    obtain ⟨a, vs, q, h1, h2⟩ := r1
    exact ⟨a, q, ⟨vs, Or.inl (Or.inl (hid_some (s1.inn _ _ h1)).2)⟩, k (Itl K a) H01 H1 s1 P1 (wk_list (G := ⟨K, cl, pa⟩) h1 h2)⟩
  | _ => cases hm
def itT (me : Env → MM D) : Env → MM (List D) := fun ρ => do
  let d ← me ρ
  match d with
  | .tup ds => pure ds
  | _ => fail
theorem wk_tup {G : Gm} {B : Hp} {a : Addr} {vs : List V} {ds : List D} (h : B a = some (.tup vs)) (r : Reps G B ds vs) : Wk G (Itt G.K a) ds B := by
  have at' : ∀ {H0' H' : Hp}, Ex H0' (hid G H') → Ex B H0' → H' a = some (.tup vs) := fun e1 e2 => (hid_some (e1 _ _ (e2 _ _ h))).2
  refine ⟨fun H0' H' e1 e2 => ⟨vs, Or.inl (Or.inl (at' e1 e2)), Nat.le_of_eq r.length⟩, fun i d H0' H' π hd e1 e2 P => ?_⟩
  obtain ⟨v, hv, rv⟩ := r.get hd
  refine ⟨⟨vs, v, Or.inl (Or.inl (at' e1 e2)), hv⟩, fun x H'' hy => ?_⟩
  obtain ⟨e, hy⟩ := hy
  subst e
  have := hy vs (Or.inl (Or.inl (at' e1 e2)))
  rw [hv] at this
  cases this
  exact ⟨H0', Pure.refl e1, P, Rep.mono e2 rv⟩
theorem ri_tup (h : Rf K cl true te me) : Ri K cl (iTup K te) (itT me) := by
  intro pa ρ σ H0 H F π ds π' R S P hm k
  obtain ⟨d, π1, e1, hm⟩ := mm_bind_some hm
  refine h pa ρ σ H0 H F π d π1 _ S P e1 fun v H01 H1 s1 P1 r1 => ?_
  cases d with
  | tup es =>
    cases hm
    simp only [Rep, pick, if_true] at r1
    obtain ⟨a, vs, q, h1, h2⟩ := r1
    exact ⟨a, q, ⟨vs, Or.inl (Or.inl (hid_some (s1.inn _ _ h1)).2)⟩, k (Itt K a) H01 H1 s1 P1 (wk_tup (G := ⟨K, cl, pa⟩) h1 h2)⟩
  | _ => cases hm
/-- a list or a tuple -/
def iSeq (K : PySem.W.Frag) (tl : TE) : TI := fun σ H R => tl σ H fun x H1 => ∃ a, x = .ref a ∧ (((∃ xs, SqL K H1 a xs) ∧ R (Itl K a) H1) ∨ ((∃ xs, SqT K H1 a xs) ∧ R (Itt K a) H1))
theorem pi_seq {X : Cx} {tgt l : Expr} {tl : TE} (hl : PE X l tl) : PI X tgt l (iSeq X.K tl) := by
  refine ⟨fun pins s σ H R I h => ?_⟩
  refine thn (hl.run pins s σ H _ I h) fun v s1 ⟨x, H1, I1, r1, q1⟩ => ?_
  obtain ⟨a, e, q1⟩ := q1
  subst e
  cases r1
  rcases q1 with ⟨⟨xs, hq⟩, q⟩ | ⟨⟨xs, hq⟩, q⟩
  · obtain ⟨its, rv, p, hz⟩ := I1.list hq
    refine wpAny_pyIter_list p.isList ?_
    refine ⟨s1.heap.objs.size, [s1.heap.objs.size], _, _, H1, rfl, I1.kept (t' := s1.toks) fun b o e => Heap.get?_push_of_some _ e, turn_list a _, ⟨_, Heap.get?_push_size _ rfl, rfl, rfl⟩, fun b hb => ?_, q⟩
    have e : b = s1.heap.objs.size := by simpa using hb
    subst e
    exact I1.fpOk (Nat.le_refl _) (I1.hok.fresh (Nat.le_refl _))
  · obtain ⟨its, rv, p, hz⟩ := I1.tuple hq
    refine wpAny_pyIter_tuple (show s1.heap.IsTuple a its.toArray from p) ?_
    refine ⟨s1.heap.objs.size, [s1.heap.objs.size], _, _, H1, rfl, I1.kept (t' := s1.toks) fun b o e => Heap.get?_push_of_some _ e, turn_tuple a _, ⟨_, Heap.get?_push_size _ rfl, rfl, rfl⟩, fun b hb => ?_, q⟩
    have e : b = s1.heap.objs.size := by simpa using hb
    subst e
    exact I1.fpOk (Nat.le_refl _) (I1.hok.fresh (Nat.le_refl _))
def itS (me : Env → MM D) : Env → MM (List D) := fun ρ => do
  let d ← me ρ
  match d with
  | .lst ds => pure ds
  | .tup ds => pure ds
  | _ => fail
theorem ri_seq (h : Rf K cl true te me) : Ri K cl (iSeq K te) (itS me) := by
  intro pa ρ σ H0 H F π ds π' R S P hm k
  obtain ⟨d, π1, e1, hm⟩ := mm_bind_some hm
  refine h pa ρ σ H0 H F π d π1 _ S P e1 fun v H01 H1 s1 P1 r1 => ?_
  cases d with
  | lst es =>
    cases hm
    simp only [Rep, pick, if_true] at r1
    obtain ⟨a, vs, q, h1, h2⟩ := r1
    exact ⟨a, q, Or.inl ⟨⟨vs, Or.inl (Or.inl (hid_some (s1.inn _ _ h1)).2)⟩, k (Itl K a) H01 H1 s1 P1 (wk_list (G := ⟨K, cl, pa⟩) h1 h2)⟩⟩
  | tup es =>
    cases hm
    simp only [Rep, pick, if_true] at r1
    obtain ⟨a, vs, q, h1, h2⟩ := r1
    exact ⟨a, q, Or.inr ⟨⟨vs, Or.inl (Or.inl (hid_some (s1.inn _ _ h1)).2)⟩, k (Itt K a) H01 H1 s1 P1 (wk_tup (G := ⟨K, cl, pa⟩) h1 h2)⟩⟩
  | _ => cases hm
/-- range -/
def rng (lo : Int) (n : Nat) : List D := (List.range n).map fun (i : Nat) => D.int (lo + (i : Int))
theorem wk_range {G : Gm} {B : Hp} (lo : Int) (n : Nat) : Wk G (Itr lo n) (rng lo n) B := by
  have hl : (rng lo n).length = n := by unfold rng; rw [List.length_map, List.length_range]
  refine ⟨fun H0' H' e1 e2 => ?_, fun i d H0' H' π hd e1 e2 P => ?_⟩
  · show n ≤ _
    rw [hl]; exact Nat.le_refl _
  · have hi : i < n := by
      have := (List.getElem?_eq_some_iff.mp hd).1
      rw [hl] at this; exact this
    refine ⟨hi, fun x H'' hy => ?_⟩
    obtain ⟨e, hy⟩ := hy
    subst e hy
    have : d = .int (lo + (i : Int)) := by
      unfold rng at hd
      rw [List.getElem?_map, List.getElem?_range hi] at hd
      simpa using hd.symm
    subst this
    exact ⟨H0', Pure.refl e1, P, by simp only [Rep]⟩
def itR1 (mg : Env → MM (List D)) : Env → MM (List D) := fun ρ => do
  let ds ← mg ρ
  match ds with
  | [.int n] => if -(2 ^ 62) ≤ n ∧ n < 2 ^ 62 then pure (rng 0 n.toNat) else fail
  | _ => fail
theorem ri_range1 (h : Ra K cl true tg mg) : Ri K cl (iRng1 tg) (itR1 mg) := by
  intro pa ρ σ H0 H F π ds π' R S P hm k
  obtain ⟨es, π1, e1, hm⟩ := mm_bind_some hm
  refine h pa ρ σ H0 H F π es π1 _ S P e1 fun vs H01 H1 s1 P1 r1 => ?_
  match es, hm, r1 with
  | [.int n], hm, r1 =>
    obtain ⟨v, vr, q1, r2, r3⟩ := r1.cases
    simp only [Reps] at r3
    simp only [Rep] at r2
    subst q1 r2 r3
    by_cases c : -(2 ^ 62) ≤ n ∧ n < 2 ^ 62
    · simp only [c, and_self, if_true] at hm
      cases hm
      exact ⟨n, rfl, c.1, c.2, k (Itr 0 n.toNat) H01 H1 s1 P1 (wk_range 0 n.toNat)⟩
    · simp only [c, if_false] at hm
      cases hm
def itR2 (mg : Env → MM (List D)) : Env → MM (List D) := fun ρ => do
  let ds ← mg ρ
  match ds with
  | [.int i, .int j] => if (-(2 ^ 62) ≤ i ∧ i < 2 ^ 62) ∧ (-(2 ^ 62) ≤ j ∧ j < 2 ^ 62) then pure (rng i (j - i).toNat) else fail
  | _ => fail
theorem ri_range2 (h : Ra K cl true tg mg) : Ri K cl (iRng2 tg) (itR2 mg) := by
  intro pa ρ σ H0 H F π ds π' R S P hm k
  obtain ⟨es, π1, e1, hm⟩ := mm_bind_some hm
  refine h pa ρ σ H0 H F π es π1 _ S P e1 fun vs H01 H1 s1 P1 r1 => ?_
  match es, hm, r1 with
  | [.int i, .int j], hm, r1 =>
    obtain ⟨v, vr, q1, r2, r3⟩ := r1.cases
    obtain ⟨w, wr, q2, r4, r5⟩ := r3.cases
    simp only [Reps] at r5
    simp only [Rep] at r2 r4
    subst q1 q2 r2 r4 r5
    by_cases c : (-(2 ^ 62) ≤ i ∧ i < 2 ^ 62) ∧ (-(2 ^ 62) ≤ j ∧ j < 2 ^ 62)
    · simp only [c, and_self, if_true] at hm
      cases hm
      exact ⟨i, j, rfl, ⟨c.1.1, c.1.2, c.2.1, c.2.2⟩, k (Itr i (j - i).toNat) H01 H1 s1 P1 (wk_range i _)⟩
    · simp only [c, if_false] at hm
      cases hm
/-- enumerate, zip -/
def enumD : Nat → List D → List D
  | _, [] => []
  | n, d :: ds => .tup [.int (n : Int), d] :: enumD (n + 1) ds
theorem enumD_get : ∀ {ds : List D} {n i : Nat} {d : D}, (enumD n ds)[i]? = some d → ∃ e, ds[i]? = some e ∧ d = .tup [.int ((n + i : Nat) : Int), e]
  | [], _, _, _, h => by simp [enumD] at h
  | e :: ds, n, 0, d, h => by
    simp [enumD] at h
    exact ⟨e, rfl, h.symm⟩
  | e :: ds, n, i + 1, d, h => by
    simp only [enumD, List.getElem?_cons_succ] at h
    obtain ⟨e', h1, h2⟩ := enumD_get h
    refine ⟨e', by simpa using h1, ?_⟩
    rw [h2]
    have : n + 1 + i = n + (i + 1) := by omega
    rw [this]
theorem enumD_length : ∀ (ds : List D) (n : Nat), (enumD n ds).length = ds.length
  | [], _ => rfl
  | d :: ds, n => by simp [enumD, enumD_length ds]
theorem wk_new {G : Gm} {π : Pen} {H0' H' : Hp} {T : Addr} {vs : List V} {ds : List D} (i : Ex H0' (hid G H')) (P : PenAt G π H0' H') (hT : H' T = none) (r : Reps G H0' ds vs) :
    ∃ H0'', Pure G H0' H' H0'' (upd H' T (.tup vs)) ∧ PenAt G π H0'' (upd H' T (.tup vs)) ∧ Rep G H0'' (.tup ds) (.ref T) := by
  obtain ⟨s, P2, h2⟩ := alloc (o := .tup vs) i P hT
  refine ⟨_, s, P2, ?_⟩
  simp only [Rep]
  exact ⟨T, vs, rfl, h2 true, Reps.mono s.fz r⟩
def itE (mg : Env → MM (List D)) : Env → MM (List D) := fun ρ => do
  let ds ← mg ρ
  match ds with
  | [.lst es] => pure (enumD 0 es)
  | _ => fail
theorem ri_enum (h : Ra K cl true tg mg) : Ri K cl (iEnum K tg) (itE mg) := by
  intro pa ρ σ H0 H F π ds π' R S P hm k
  obtain ⟨es, π1, e1, hm⟩ := mm_bind_some hm
  refine h pa ρ σ H0 H F π es π1 _ S P e1 fun vs H01 H1 s1 P1 r1 => ?_
  match es, hm, r1 with
  | [.lst es], hm, r1 =>
    cases hm
    obtain ⟨v, vr, q1, r2, r3⟩ := r1.cases
    simp only [Reps] at r3
    simp only [Rep, pick, if_true] at r2
    obtain ⟨a, ws, q2, g1, g2⟩ := r2
    subst q1 r3 q2
    refine ⟨a, ws, rfl, Or.inl (Or.inl (hid_some (s1.inn _ _ g1)).2), k (Ite K a) H01 H1 s1 P1 ⟨fun H0' H' i1 i2 => ?_, fun j d H0' H' π2 hd i1 i2 P2 => ?_⟩⟩
    · exact ⟨ws, Or.inl (Or.inl (hid_some (i1 _ _ (i2 _ _ g1))).2), by rw [enumD_length, g2.length]; exact Nat.le_refl _⟩
    · obtain ⟨e, h3, rfl⟩ := enumD_get hd
      obtain ⟨w, h4, h5⟩ := g2.get h3
      have hL : SqL K H' a ws := Or.inl (Or.inl (hid_some (i1 _ _ (i2 _ _ g1))).2)
      refine ⟨⟨ws, w, hL, h4⟩, fun x H'' hy => ?_⟩
      obtain ⟨T, x0, rfl, hT, rfl, hy⟩ := hy
      have := hy ws hL
      rw [h4] at this; cases this
      have e0 : ((0 + j : Nat) : Int) = (j : Int) := by rw [Nat.zero_add]
      rw [e0]
      exact wk_new i1 P2 hT (.cons (by simp only [Rep]) (.cons (Rep.mono i2 h5) .nil))
def zipD : List D → List D → List D
  | d :: ds, e :: es => .tup [d, e] :: zipD ds es
  | _, _ => []
theorem zipD_get : ∀ {ds es : List D} {i : Nat} {d : D}, (zipD ds es)[i]? = some d → ∃ x y, ds[i]? = some x ∧ es[i]? = some y ∧ d = .tup [x, y]
  | [], es, _, _, h => by cases es <;> simp [zipD] at h
  | _ :: _, [], _, _, h => by simp [zipD] at h
  | x :: ds, y :: es, 0, d, h => by
    simp [zipD] at h
    exact ⟨x, y, rfl, rfl, h.symm⟩
  | x :: ds, y :: es, i + 1, d, h => by
    simp only [zipD, List.getElem?_cons_succ] at h
    obtain ⟨a, c, h1, h2, h3⟩ := zipD_get h
    exact ⟨a, c, by simpa using h1, by simpa using h2, h3⟩
theorem zipD_length : ∀ ds es : List D, (zipD ds es).length = min ds.length es.length
  | [], es => by cases es <;> simp [zipD]
  | _ :: _, [] => by simp [zipD]
  | _ :: ds, _ :: es => by simp only [zipD, List.length_cons, zipD_length ds es]; omega
def itZ (mg : Env → MM (List D)) : Env → MM (List D) := fun ρ => do
  let ds ← mg ρ
  match ds with
  | [.lst xs, .lst ys] => pure (zipD xs ys)
  | [.tup xs, .tup ys] => pure (zipD xs ys)
  | _ => fail
theorem ri_zip (h : Ra K cl true tg mg) : Ri K cl (RZ.iZipA K tg) (itZ mg) := by
  intro pa ρ σ H0 H F π ds π' R S P hm k
  obtain ⟨es, π1, e1, hm⟩ := mm_bind_some hm
  refine h pa ρ σ H0 H F π es π1 _ S P e1 fun vs H01 H1 s1 P1 r1 => ?_
  match es, hm, r1 with
  | [.lst xs, .lst ys], hm, r1 =>
    cases hm
    obtain ⟨v, vr, q1, r2, r3⟩ := r1.cases
    obtain ⟨w, wr, q2, r4, r5⟩ := r3.cases
    simp only [Reps] at r5
    simp only [Rep, pick, if_true] at r2 r4
    obtain ⟨a, vs, q3, g1, g2⟩ := r2
    obtain ⟨c, ws, q4, g3, g4⟩ := r4
    subst q1 q2 r5 q3 q4
    have eL : ∀ {H0' H' : Hp}, Ex H0' (hid ⟨K, cl, pa⟩ H') → Ex H01 H0' → SqL K H' a vs ∧ SqL K H' c ws := fun i1 i2 => ⟨Or.inl (Or.inl (hid_some (i1 _ _ (i2 _ _ g1))).2), Or.inl (Or.inl (hid_some (i1 _ _ (i2 _ _ g3))).2)⟩
    refine ⟨a, c, vs, ws, rfl, Or.inl ⟨(eL s1.inn (Ex.refl _)).1, (eL s1.inn (Ex.refl _)).2, k (Itz K a c) H01 H1 s1 P1 ⟨fun H0' H' i1 i2 => ?_, fun j d H0' H' π2 hd i1 i2 P2 => ?_⟩⟩⟩
    · refine ⟨vs, ws, (eL i1 i2).1, (eL i1 i2).2, ?_⟩
      rw [zipD_length, g2.length, g4.length]; omega
    · obtain ⟨x, y, h3, h4, rfl⟩ := zipD_get hd
      obtain ⟨v, h5, h6⟩ := g2.get h3
      obtain ⟨w, h7, h8⟩ := g4.get h4
      refine ⟨⟨vs, ws, v, w, (eL i1 i2).1, (eL i1 i2).2, h5, h7⟩, fun z H'' hy => ?_⟩
      obtain ⟨T, x0, y0, rfl, hT, rfl, hy1, hy2⟩ := hy
      have e5 := hy1 vs (eL i1 i2).1
      have e7 := hy2 ws (eL i1 i2).2
      rw [h5] at e5; rw [h7] at e7
      cases e5; cases e7
      exact wk_new i1 P2 hT (.cons (Rep.mono i2 h6) (.cons (Rep.mono i2 h8) .nil))
  | [.tup xs, .tup ys], hm, r1 =>
    cases hm
    obtain ⟨v, vr, q1, r2, r3⟩ := r1.cases
    obtain ⟨w, wr, q2, r4, r5⟩ := r3.cases
    simp only [Reps] at r5
    simp only [Rep, pick, if_true] at r2 r4
    obtain ⟨a, vs, q3, g1, g2⟩ := r2
    obtain ⟨c, ws, q4, g3, g4⟩ := r4
    subst q1 q2 r5 q3 q4
    have eL : ∀ {H0' H' : Hp}, Ex H0' (hid ⟨K, cl, pa⟩ H') → Ex H01 H0' → SqT K H' a vs ∧ SqT K H' c ws := fun i1 i2 => ⟨Or.inl (Or.inl (hid_some (i1 _ _ (i2 _ _ g1))).2), Or.inl (Or.inl (hid_some (i1 _ _ (i2 _ _ g3))).2)⟩
    refine ⟨a, c, vs, ws, rfl, Or.inr ⟨(eL s1.inn (Ex.refl _)).1, (eL s1.inn (Ex.refl _)).2, k (RZ.ItzT K a c) H01 H1 s1 P1 ⟨fun H0' H' i1 i2 => ?_, fun j d H0' H' π2 hd i1 i2 P2 => ?_⟩⟩⟩
    · refine ⟨vs, ws, (eL i1 i2).1, (eL i1 i2).2, ?_⟩
      rw [zipD_length, g2.length, g4.length]; omega
    · obtain ⟨x, y, h3, h4, rfl⟩ := zipD_get hd
      obtain ⟨v, h5, h6⟩ := g2.get h3
      obtain ⟨w, h7, h8⟩ := g4.get h4
      refine ⟨⟨vs, ws, v, w, (eL i1 i2).1, (eL i1 i2).2, h5, h7⟩, fun z H'' hy => ?_⟩
      obtain ⟨T, x0, y0, rfl, hT, rfl, hy1, hy2⟩ := hy
      have e5 := hy1 vs (eL i1 i2).1
      have e7 := hy2 ws (eL i1 i2).2
      rw [h5] at e5; rw [h7] at e7
      cases e5; cases e7
      exact wk_new i1 P2 hT (.cons (Rep.mono i2 h6) (.cons (Rep.mono i2 h8) .nil))

/-! ### for -/
def loopM (tgf : D → Env → MM Env) (body : Env → MM Out) : List D → Env → MM Out
  | [], ρ => pure (.next ρ)
  | d :: ds, ρ => do
    let ρ1 ← tgf d ρ
    let o ← body ρ1
    match o with
    | .next ρ2 => loopM tgf body ds ρ2
    | .cont ρ2 => loopM tgf body ds ρ2
    | .brk ρ2 => pure (.next ρ2)
    | .ret d => pure (.ret d)
def sFor (it : Env → MM (List D)) (tgf : D → Env → MM Env) (body : Env → MM Out) : Env → MM Out := fun ρ => do
  let ds ← it ρ
  loopM tgf body ds ρ
theorem rs_for {wi : TI} {it : Env → MM (List D)} {g : TG} {tgf : D → Env → MM Env} (hi : Ri K cl wi it) (hg : Rg K cl g tgf) (hb : Rs K cl t1 m1) : Rs K cl (tFor wi g t1) (sFor it tgf m1) := by
  intro pa ρ σ H0 H F π o π' E S P hm k
  obtain ⟨ds, π1, e1, hm⟩ := mm_bind_some hm
  refine hi pa ρ σ H0 H F π ds π1 _ S P e1 fun J H01 H1 s1 P1 wk => ?_
  have k1 := k.pre P1 s1.step
  refine ⟨fun i m σ' H' => i + m = ds.length ∧ ∃ ρ' H0' F' π2, SA ⟨K, cl, pa⟩ ρ' σ' H0' H' F' ∧ PenAt ⟨K, cl, pa⟩ π2 H0' H' ∧ Step ⟨K, cl, pa⟩ F H01 H1 F' H0' H' ∧ loopM tgf m1 (ds.drop i) ρ' π2 = some (o, π'),
    ⟨ds.length, by omega, ρ, H01, F, π1, S.pure s1, P1, Step.refl s1.inn, by simpa using hm⟩, ?_⟩
  rintro i m σ2 H2 ⟨hi2, ρ2, H02, F2, π2, S2, P2, s2, hl⟩
  cases m with
  | zero =>
    have hd : ds.drop i = [] := List.drop_eq_nil_of_le (by omega)
    rw [hd] at hl
    cases hl
    have : i = ds.length := by omega
    subst this
    exact Or.inl ⟨wk.stop H02 H2 S2.i0 s2.fz, k1 σ2 H02 H2 F2 S2 P2 s2⟩
  | succ m =>
    have hi3 : i < ds.length := by omega
    have hd : ds.drop i = ds[i] :: ds.drop (i + 1) := List.drop_eq_getElem_cons hi3
    rw [hd] at hl
    obtain ⟨ρ3, π3, e3, hl⟩ := mm_bind_some hl
    obtain ⟨o4, π4, e4, hl⟩ := mm_bind_some hl
    obtain ⟨go, yl⟩ := wk.go i ds[i] H02 H2 π2 (List.getElem?_eq_getElem hi3) S2.i0 s2.fz P2
    refine Or.inr ⟨go, fun σ' H' => (i + 1) + m = ds.length ∧ ∃ ρ' H0' F' π2, SA ⟨K, cl, pa⟩ ρ' σ' H0' H' F' ∧ PenAt ⟨K, cl, pa⟩ π2 H0' H' ∧ Step ⟨K, cl, pa⟩ F H01 H1 F' H0' H' ∧ loopM tgf m1 (ds.drop (i + 1)) ρ' π2 = some (o, π'),
      fun σ' H' hN => ⟨m, Nat.lt_succ_self m, hN⟩, fun x H3 hy => ?_⟩
    obtain ⟨H03, s3, P3, r3⟩ := yl x H3 hy
    refine hg pa ρ2 σ2 H03 H3 F2 π2 ds[i] x ρ3 π3 _ (S2.pure s3) P3 r3 e3 fun σ4 H04 H4 F4 S4 P4 s4 => ?_
    have s14 := s2.trans (fun _ => P2.pa) (s3.step.trans (fun _ => P3.pa) s4)
    refine hb pa ρ3 σ4 H04 H4 F4 π3 o4 π4 _ S4 P4 e4 ?_
    cases o4 with
    | next ρ5 => exact fun σ5 H05 H5 F5 S5 P5 s5 => ⟨by omega, ρ5, H05, F5, π4, S5, P5, s14.trans (fun _ => P4.pa) s5, hl⟩
    | cont ρ5 => exact fun σ5 H05 H5 F5 S5 P5 s5 => ⟨by omega, ρ5, H05, F5, π4, S5, P5, s14.trans (fun _ => P4.pa) s5, hl⟩
    | brk ρ5 =>
      cases hl
      exact fun σ5 H05 H5 F5 S5 P5 s5 => k1 σ5 H05 H5 F5 S5 P5 (s14.trans (fun _ => P4.pa) s5)
    | ret d =>
      cases hl
      exact fun v H05 H5 P5 s5 r5 => k1 v H05 H5 P5 (s14.trans (fun _ => P4.pa) s5) r5

/-! ### while -/
def whileM (mt : Env → MM Bool) (body : Env → MM Out) : Nat → Env → MM Out
  | 0, _ => fail
  | n + 1, ρ => do
    let c ← mt ρ
    if c then do
      let o ← body ρ
      match o with
      | .next ρ2 => whileM mt body n ρ2
      | .cont ρ2 => whileM mt body n ρ2
      | .brk ρ2 => pure (.next ρ2)
      | .ret d => pure (.ret d)
    else pure (.next ρ)
theorem rs_while (n : Nat) (ht : Rt K cl t mt) (hb : Rs K cl t1 m1) : Rs K cl (tWhile t t1) (whileM mt m1 n) := by
  intro pa ρ σ H0 H F π o π' E S P hm k
  refine ⟨fun m σ' H' => ∃ ρ' H0' F' π2, SA ⟨K, cl, pa⟩ ρ' σ' H0' H' F' ∧ PenAt ⟨K, cl, pa⟩ π2 H0' H' ∧ Step ⟨K, cl, pa⟩ F H0 H F' H0' H' ∧ whileM mt m1 m ρ' π2 = some (o, π'), ⟨n, ρ, H0, F, π, S, P, Step.refl S.i0, hm⟩, ?_⟩
  rintro m σ2 H2 ⟨ρ2, H02, F2, π2, S2, P2, s2, hl⟩
  cases m with
  | zero => cases hl
  | succ m =>
    obtain ⟨c, π3, e3, hl⟩ := mm_bind_some hl
    refine ht pa ρ2 σ2 H02 H2 F2 π2 c π3 _ S2 P2 e3 fun H03 H3 s3 P3 => ?_
    have s13 := s2.trans (fun _ => P2.pa) s3.step
    cases c with
    | false =>
      cases hl
      exact k σ2 H03 H3 F2 (S2.pure s3) P3 s13
    | true =>
      obtain ⟨o4, π4, e4, hl⟩ := mm_bind_some hl
      refine ⟨fun σ' H' => ∃ ρ' H0' F' π2, SA ⟨K, cl, pa⟩ ρ' σ' H0' H' F' ∧ PenAt ⟨K, cl, pa⟩ π2 H0' H' ∧ Step ⟨K, cl, pa⟩ F H0 H F' H0' H' ∧ whileM mt m1 m ρ' π2 = some (o, π'), fun σ' H' hN => ⟨m, Nat.lt_succ_self m, hN⟩, ?_⟩
      refine hb pa ρ2 σ2 H03 H3 F2 π3 o4 π4 _ (S2.pure s3) P3 e4 ?_
      cases o4 with
      | next ρ5 => exact fun σ5 H05 H5 F5 S5 P5 s5 => ⟨ρ5, H05, F5, π4, S5, P5, s13.trans (fun _ => P3.pa) s5, hl⟩
      | cont ρ5 => exact fun σ5 H05 H5 F5 S5 P5 s5 => ⟨ρ5, H05, F5, π4, S5, P5, s13.trans (fun _ => P3.pa) s5, hl⟩
      | brk ρ5 =>
        cases hl
        exact fun σ5 H05 H5 F5 S5 P5 s5 => k σ5 H05 H5 F5 S5 P5 (s13.trans (fun _ => P3.pa) s5)
      | ret d =>
        cases hl
        exact fun v H05 H5 P5 s5 r5 => k v H05 H5 P5 (s13.trans (fun _ => P3.pa) s5) r5
end
end DL
set_option Elab.async false
set_option linter.all false
set_option maxRecDepth 100000
set_option maxHeartbeats 4000000
namespace DL
open PySem L2

/-! ### the slots of a comprehension's own names -/
theorem wipe_get (σ : L2.St) (vs : List Nat) (i : Nat) : (wipe σ vs)[i]? = if i ∈ vs then (if i < σ.length then some none else none) else σ[i]? := by
  induction vs with
  | nil => simp [wipe]
  | cons v vs ih =>
    unfold wipe
    by_cases hv : v = i
    · subst hv
      by_cases hl : v < σ.length
      · rw [List.getElem?_set_self (by rw [wipe_length]; exact hl)]; simp [hl]
      · rw [List.getElem?_eq_none (by rw [List.length_set, wipe_length]; omega)]; simp [hl]
    · rw [List.getElem?_set_ne hv, ih]
      have : (i ∈ v :: vs) = (i ∈ vs) := by simp [List.mem_cons, Ne.symm hv]
      simp only [this]
theorem wipe_eq {σ σ' : L2.St} {vs : List Nat} (hl : σ'.length = σ.length) (h : ∀ i, i ∉ vs → σ'[i]? = σ[i]?) : wipe σ' vs = wipe σ vs := by
  apply List.ext_getElem?
  intro i
  rw [wipe_get, wipe_get]
  by_cases hi : i ∈ vs
  · rw [if_pos hi, if_pos hi, hl]
  · rw [if_neg hi, if_neg hi, h i hi]
theorem wipe_wipe (σ : L2.St) (vs : List Nat) : wipe (wipe σ vs) vs = wipe σ vs :=
  wipe_eq (wipe_length σ vs) fun i hi => by rw [wipe_get, if_neg hi]
theorem wipe_set {σ : L2.St} {vs : List Nat} {j : Nat} {x : Option V} (hj : j ∈ vs) : wipe (σ.set j x) vs = wipe σ vs :=
  wipe_eq (by simp) fun i hi => by
    have : j ≠ i := fun e => hi (e ▸ hj)
    rw [List.getElem?_set_ne this]
def wipeE (ρ : Env) : List Nat → Env
  | [] => ρ
  | v :: vs => (wipeE ρ vs).set v .un
theorem SA.wipe {G : Gm} {ρ : Env} {σ : L2.St} {H0 H : Hp} {F : List Addr} (S : SA G ρ σ H0 H F) : ∀ vs : List Nat, ∃ F', SA G (wipeE ρ vs) (wipe σ vs) H0 H F' ∧ ∀ c ∈ F', c ∈ F
  | [] => ⟨F, S, fun _ h => h⟩
  | v :: vs => by
    obtain ⟨F1, S1, f1⟩ := SA.wipe S vs
    obtain ⟨F2, S2, f2⟩ := S1.set v (x := none) (Fs := []) (s := .un) rfl List.nodup_nil (by simp)
    refine ⟨F2, S2, fun c hc => ?_⟩
    rcases f2 c hc with z | z
    · exact f1 c z
    · simp at z
/-- a target of names alone, among vs -/
def Rgn (K : PySem.W.Frag) (cl : Nat → Addr) (vs : List Nat) (g : TG) (f : D → Env → MM Env) : Prop := ∀ (pa : PA) (ρ : Env) (σ : L2.St) (H0 H : Hp) (F : List Addr) (π : Pen) (d : D) (v : V) (ρ' : Env) (π' : Pen) (Q : L2.St → Hp → Prop),
  SA ⟨K, cl, pa⟩ ρ σ H0 H F → PenAt ⟨K, cl, pa⟩ π H0 H → Rep ⟨K, cl, pa⟩ H0 d v → f d ρ π = some (ρ', π') →
  (∀ σ' F', π' = π → SA ⟨K, cl, pa⟩ ρ' σ' H0 H F' → (∀ c ∈ F', c ∈ F) → wipe σ' vs = wipe σ vs → Q σ' H) → g v σ H Q
def Rgns (K : PySem.W.Frag) (cl : Nat → Addr) (vs : List Nat) (g : TGs) (f : List D → Env → MM Env) : Prop := ∀ (pa : PA) (ρ : Env) (σ : L2.St) (H0 H : Hp) (F : List Addr) (π : Pen) (ds : List D) (ws : List V) (ρ' : Env) (π' : Pen) (Q : L2.St → Hp → Prop),
  SA ⟨K, cl, pa⟩ ρ σ H0 H F → PenAt ⟨K, cl, pa⟩ π H0 H → Reps ⟨K, cl, pa⟩ H0 ds ws → f ds ρ π = some (ρ', π') →
  (∀ σ' F', π' = π → SA ⟨K, cl, pa⟩ ρ' σ' H0 H F' → (∀ c ∈ F', c ∈ F) → wipe σ' vs = wipe σ vs → Q σ' H) → g ws σ H Q
section
variable {K : PySem.W.Frag} {cl : Nat → Addr} {vs : List Nat}
theorem rgn_name {i : Nat} (hi : i ∈ vs) : Rgn K cl vs (gName i) (gNm i) := by
  intro pa ρ σ H0 H F π d v ρ' π' Q S P r h k
  cases h
  obtain ⟨F', S', f'⟩ := S.set i (x := some v) (Fs := []) (s := .sh d) ⟨rfl, v, rfl, r⟩ List.nodup_nil (by simp)
  refine k _ F' rfl S' (fun c hc => ?_) (wipe_set hi)
  rcases f' c hc with z | z
  · exact z
  · simp at z
theorem rgns_nil : Rgns K cl vs gNil gsN := by
  intro pa ρ σ H0 H F π ds ws ρ' π' Q S P r h k
  cases ds with
  | nil =>
    cases h
    simp only [Reps] at r
    exact ⟨r, k σ F rfl S (fun _ z => z) rfl⟩
  | cons d ds => cases h
theorem rgns_cons {g : TG} {gs : TGs} {f : D → Env → MM Env} {fs : List D → Env → MM Env} (h1 : Rgn K cl vs g f) (h2 : Rgns K cl vs gs fs) : Rgns K cl vs (gCons g gs) (gsC f fs) := by
  intro pa ρ σ H0 H F π ds ws ρ' π' Q S P r h k
  cases ds with
  | nil => cases h
  | cons d ds =>
    obtain ⟨v, vr, e, r1, r2⟩ := r.cases
    subst e
    obtain ⟨ρ1, π1, e1, h'⟩ := mm_bind_some h
    refine ⟨v, vr, rfl, h1 pa ρ σ H0 H F π d v ρ1 π1 _ S P r1 e1 fun σ1 F1 q1 S1 f1 w1 => ?_⟩
    subst q1
    exact h2 pa ρ1 σ1 H0 H F1 _ ds vr ρ' π' Q S1 P r2 h' fun σ2 F2 q2 S2 f2 w2 => k σ2 F2 q2 S2 (fun c hc => f1 c (f2 c hc)) (w2.trans w1)
theorem rgn_tup {n : Nat} {gs : TGs} {fs : List D → Env → MM Env} (h2 : Rgns K cl vs gs fs) : Rgn K cl vs (gTup K n gs) (gTp n fs) := by
  intro pa ρ σ H0 H F π d v ρ' π' Q S P r h k
  cases d with
  | tup ds =>
    simp only [gTp] at h
    simp only [Rep] at r
    obtain ⟨a, ws, e, r1, r2⟩ := r
    by_cases hl : ds.length = n
    · rw [if_pos hl] at h
      exact ⟨a, ws, e, Or.inl (Or.inl (hid_some (S.i0 _ _ r1)).2), by rw [r2.length]; exact hl, h2 pa ρ σ H0 H F π ds ws ρ' π' Q S P r2 h k⟩
    · rw [if_neg hl] at h; cases h
  | _ => cases h
end

theorem SA.other {G : Gm} {ρ : Env} {σ : L2.St} {H0 H : Hp} {F : List Addr} {p : Addr} {o : HO} (S : SA G ρ σ H0 H F) (hp : p ∉ F) (h0 : H0 p = none) : SA G ρ σ H0 (upd H p o) F :=
  ⟨fun c u hc => by
    obtain ⟨nc, h'⟩ := hid_some (S.i0 c u hc)
    rw [hid_ne nc, upd_ne (fun e => by rw [e, h0] at hc; cases hc)]; exact h', S.env.keep (Ex.refl _) (fun c hc o _ q => by rw [upd_ne (fun (e : c = p) => hp (by rw [← e]; exact hc))]; exact q) (fun _ _ _ z => z), S.nd⟩
theorem RepMs.snoc {G : Gm} {H0 H : Hp} {m : M} {v : V} {Fm : List Addr} (hm : RepM G H0 H m v Fm) : ∀ {ms : List M} {ws : List V} {F : List Addr}, RepMs G H0 H ms ws F → RepMs G H0 H (ms ++ [m]) (ws ++ [v]) (F ++ Fm)
  | [], _, _, h => by
    simp only [RepMs] at h
    obtain ⟨e1, e2⟩ := h
    subst e1 e2
    simp only [List.nil_append, RepMs]
    exact ⟨v, [], Fm, [], rfl, by simp, hm, rfl, rfl⟩
  | _ :: _, _, _, h => by
    simp only [RepMs] at h
    obtain ⟨w, r, F1, F2, e1, e2, h3, h4⟩ := h
    subst e1 e2
    simp only [List.cons_append, RepMs]
    exact ⟨w, r ++ [v], F1, F2 ++ Fm, rfl, by rw [List.append_assoc], h3, RepMs.snoc hm h4⟩
theorem RepMs.length {G : Gm} {H0 H : Hp} : ∀ {ms : List M} {ws : List V} {F : List Addr}, RepMs G H0 H ms ws F → ws.length = ms.length
  | [], _, _, h => by simp only [RepMs] at h; rw [h.1]; rfl
  | _ :: _, _, _, h => by
    simp only [RepMs] at h
    obtain ⟨w, r, F1, F2, e1, e2, h3, h4⟩ := h
    rw [e1, List.length_cons, List.length_cons, RepMs.length h4]

/-- what a comprehension has laid so far: the list at Dl, its things ms -/
structure Lcs (G : Gm) (H01 H1 : Hp) (Dl : Addr) (H0' H' : Hp) (ms : List M) (acc : List V) (Fa : List Addr) : Prop where
  pu : Pure G H01 H1 H0' H'
  at_ : H' Dl = some (.lst acc)
  no : H0' Dl = none
  rm : RepMs G H0' H' ms acc Fa
  nd : Fa.Nodup
  nD : Dl ∉ Fa
  fr : ∀ c ∈ Fa, H1 c = none
theorem Lcs.pure {G : Gm} {H01 H1 : Hp} {Dl : Addr} {H0' H' H0'' H'' : Hp} {ms : List M} {acc : List V} {Fa : List Addr} (L : Lcs G H01 H1 Dl H0' H' ms acc Fa) (np : Dl ≠ G.pa) (pa' : H' G.pa ≠ none) (s : Pure G H0' H' H0'' H'') : Lcs G H01 H1 Dl H0'' H'' ms acc Fa := by
  have kp : ∀ c o, c ≠ G.pa → H' c = some o → H'' c = some o := fun c o hc q => by
    have := s.all c o (by rw [hid_ne hc]; exact q)
    rw [hid_ne hc] at this; exact this
  exact ⟨L.pu.trans (fun _ => pa') s, kp _ _ np L.at_, s.new _ (by rw [L.at_]; intro z; cases z) L.no, L.rm.keep s.fz (fun c _ o h q => kp c o h q) (fun c _ h1 h2 => s.new c h1 h2), L.nd, L.nD, L.fr⟩
theorem Lcs.add {G : Gm} {π : Pen} {H01 H1 : Hp} {Dl : Addr} {H0' H' : Hp} {ms : List M} {acc : List V} {Fa Fn : List Addr} {m : M} {y : V} (L : Lcs G H01 H1 Dl H0' H' ms acc Fa) (np : Dl ≠ G.pa) (hD : H1 Dl = none) (P : PenAt G π H0' H') (rm : RepM G H0' H' m y Fn) (nd : Fn.Nodup)
    (f1 : ∀ c ∈ Fn, H1 c = none) (f2 : ∀ c ∈ Fn, c ≠ Dl) (f3 : ∀ c ∈ Fn, c ∉ Fa) : Lcs G H01 H1 Dl H0' (upd H' Dl (.lst (acc ++ [y]))) (ms ++ [m]) (acc ++ [y]) (Fa ++ Fn) ∧ PenAt G π H0' (upd H' Dl (.lst (acc ++ [y]))) := by
  have kp : ∀ c o, c ≠ Dl → H' c = some o → upd H' Dl (.lst (acc ++ [y])) c = some o := fun c o hc q => by rw [upd_ne hc]; exact q
  refine ⟨⟨⟨L.pu.fz, fun c o hc => ?_, fun c o hc => ?_, L.pu.new⟩, upd_same, L.no, ?_, ?_, ?_, ?_⟩, P.grow (Ex.refl _) (upd_ne (Ne.symm np))⟩
  · have h' := L.pu.all c o hc
    obtain ⟨nc, hc⟩ := hid_some hc
    rw [hid_ne nc] at h' ⊢
    exact kp c o (ne_of_none hc hD) h'
  · obtain ⟨nc, h'⟩ := hid_some (L.pu.inn c o hc)
    rw [hid_ne nc]
    exact kp c o (fun e => by rw [e, L.no] at hc; cases hc) h'
  · exact RepMs.snoc (rm.keep (Ex.refl _) (fun c hc o _ q => kp c o (f2 c hc) q) (fun _ _ _ z => z)) (L.rm.keep (Ex.refl _) (fun c hc o _ q => kp c o (fun e => L.nD (e ▸ hc)) q) (fun _ _ _ z => z))
  · rw [List.nodup_append]
    exact ⟨L.nd, nd, fun a h1 c h2 e => f3 c h2 (e ▸ h1)⟩
  · intro z
    rcases List.mem_append.mp z with z | z
    · exact L.nD z
    · exact f2 _ z rfl
  · intro c z
    rcases List.mem_append.mp z with z | z
    · exact L.fr c z
    · exact f1 c z
theorem Lcs.start {G : Gm} {π : Pen} {H01 H1 : Hp} {Dl : Addr} (i : Ex H01 (hid G H1)) (P : PenAt G π H01 H1) (hD : H1 Dl = none) : Lcs G H01 H1 Dl H01 (upd H1 Dl (.lst [])) [] [] [] ∧ PenAt G π H01 (upd H1 Dl (.lst [])) := by
  obtain ⟨s, P'⟩ := allocO (o := .lst []) i P hD
  exact ⟨⟨s, upd_same, free0 i hD, by simp [RepMs], List.nodup_nil, by simp, by simp⟩, P'⟩

section
variable {K : PySem.W.Frag} {cl : Nat → Addr}
variable {b bi bo : Bool} {ta tb tc te : TE} {ma mb mc me : Env → MM D} {t u : TT} {mt mu : Env → MM Bool} {tg : TA} {mg : Env → MM (List D)} {t1 t2 : TS} {m1 m2 : Env → MM Out}

def lcM (tgf : D → Env → MM Env) (mt : Env → MM Bool) (mo : Env → MM M) (ρ : Env) : List D → MM (List M)
  | [] => pure []
  | d :: ds => do
    let ρ1 ← tgf d ρ
    let c ← mt ρ1
    if c then do
      let x ← mo ρ1
      let xs ← lcM tgf mt mo ρ ds
      pure (x :: xs)
    else lcM tgf mt mo ρ ds
def oLc (it : Env → MM (List D)) (tgf : D → Env → MM Env) (mt : Env → MM Bool) (mo : Env → MM M) (vs : List Nat) : Env → MM M := fun ρ => do
  let ds ← it ρ
  let xs ← lcM tgf mt mo (wipeE ρ vs) ds
  if xs.length ≤ 100000 then pure (.lst xs) else fail
theorem size_lt {n m : Nat} (h : n < m) (h2 : m ≤ 100000) : n < sizeLine := Nat.lt_of_lt_of_le h (size_ok h2)
theorem none_back {G : Gm} {π : Pen} {H0 H H0' H' : Hp} {c : Addr} (s : Pure G H0 H H0' H') (P : PenAt G π H0' H') (h : H' c = none) : H c = none := by
  cases q : H c with
  | none => rfl
  | some o =>
    by_cases e : c = G.pa
    · subst e; exact absurd h P.pa
    · have := s.all c o (by rw [hid_ne e]; exact q)
      rw [hid_ne e, h] at this; cases this
theorem ro_lc {wi : TI} {it : Env → MM (List D)} {g : TG} {tgf : D → Env → MM Env} {mo : Env → MM M} {vs : List Nat} (hi : Ri K cl wi it) (hg : Rgn K cl vs g tgf) (ht : Rt K cl t mt) (he : Ro K cl te mo) : Ro K cl (tLc wi g t te vs) (oLc it tgf mt mo vs) := by
  intro pa ρ σ H0 H F π x π' Q S P hm k
  obtain ⟨ds, π1, e1, hm⟩ := mm_bind_some hm
  obtain ⟨xs, π2, e2, hm⟩ := mm_bind_some hm
  by_cases hxs : xs.length ≤ 100000
  case neg => rw [if_neg hxs] at hm; cases hm
  rw [if_pos hxs] at hm
  cases hm
  refine hi pa ρ σ H0 H F π ds π1 _ S P e1 fun J H01 H1 s1 P1 wk => ?_
  intro Dl hD
  have np : Dl ≠ pa.a := ne_pa P1 hD
  obtain ⟨Fw, Sw, fw⟩ := (S.pure s1).wipe vs
  refine ⟨fun i m H' => i + m = ds.length ∧ ∃ H0' ms acc Fa es π3, Lcs ⟨K, cl, pa⟩ H01 H1 Dl H0' H' ms acc Fa ∧ PenAt ⟨K, cl, pa⟩ π3 H0' H' ∧ lcM tgf mt mo (wipeE ρ vs) (ds.drop i) π3 = some (es, π') ∧ xs = ms ++ es, ?_, ?_⟩
  · obtain ⟨L, P2⟩ := Lcs.start (G := ⟨K, cl, pa⟩) s1.inn P1 hD
    exact ⟨ds.length, by omega, H01, [], [], [], xs, π1, L, P2, by simpa using e2, rfl⟩
  · rintro i m H2 ⟨him, H02, ms, acc, Fa, es, π3, L, P2, hl, ex⟩
    cases m with
    | zero =>
      have hd : ds.drop i = [] := List.drop_eq_nil_of_le (by omega)
      rw [hd] at hl
      cases hl
      have : i = ds.length := by omega
      subst this
      rw [List.append_nil] at ex
      subst ex
      refine Or.inl ⟨wk.stop H02 H2 L.pu.inn L.pu.fz, ?_⟩
      refine k (.ref Dl) H02 H2 (Dl :: Fa) (s1.trans (fun _ => P1.pa) L.pu) P2 ?_ (List.nodup_cons.mpr ⟨L.nD, L.nd⟩) ?_
      · simp only [RepM]
        exact ⟨Dl, acc, Fa, rfl, rfl, L.no, np, L.at_, L.rm⟩
      · intro c hc
        refine none_back (G := ⟨K, cl, pa⟩) s1 P1 ?_
        rcases List.mem_cons.mp hc with z | z
        · rw [z]; exact hD
        · exact L.fr c z
    | succ m =>
      have hi3 : i < ds.length := by omega
      have hd : ds.drop i = ds[i] :: ds.drop (i + 1) := List.drop_eq_getElem_cons hi3
      rw [hd] at hl
      obtain ⟨ρ3, π4, e4, hl⟩ := mm_bind_some hl
      obtain ⟨c, π5, e5, hl⟩ := mm_bind_some hl
      obtain ⟨go, yl⟩ := wk.go i ds[i] H02 H2 π3 (List.getElem?_eq_getElem hi3) L.pu.inn L.pu.fz P2
      refine Or.inr ⟨go, fun H' => (i + 1) + m = ds.length ∧ ∃ H0' ms acc Fa es π3, Lcs ⟨K, cl, pa⟩ H01 H1 Dl H0' H' ms acc Fa ∧ PenAt ⟨K, cl, pa⟩ π3 H0' H' ∧ lcM tgf mt mo (wipeE ρ vs) (ds.drop (i + 1)) π3 = some (es, π') ∧ xs = ms ++ es,
        fun H' hN => ⟨m, Nat.lt_succ_self m, hN⟩, fun z H3 hy => ?_⟩
      obtain ⟨H03, s3, P3, r3⟩ := yl z H3 hy
      have L3 := L.pure np P2.pa s3
      refine hg pa (wipeE ρ vs) (wipe σ vs) H03 H3 Fw π3 ds[i] z ρ3 π4 _ (Sw.pure L3.pu) P3 r3 e4 fun σ4 F4 q4 S4 f4 w4 => ?_
      subst q4
      refine ⟨w4.trans (wipe_wipe σ vs), ht pa ρ3 σ4 H03 H3 F4 π4 c π5 _ S4 P3 e5 fun H05 H5 s5 P5 => ?_⟩
      have L5 := L3.pure np P3.pa s5
      cases c with
      | false => exact ⟨by omega, H05, ms, acc, Fa, es, π5, L5, P5, hl, ex⟩
      | true =>
        obtain ⟨x1, π6, e6, hl⟩ := mm_bind_some hl
        obtain ⟨xs1, π7, e7, hl⟩ := mm_bind_some hl
        cases hl
        refine he pa ρ3 σ4 H05 H5 F4 π5 x1 π6 _ (S4.pure s5) P5 e6 fun y H06 H6 Fn s6 P6 r6 nd6 fr6 => ?_
        have L6 := L5.pure np P5.pa s6
        have nD : ∀ c ∈ Fn, c ≠ Dl := fun c hc e => by have := fr6 c hc; rw [e, L5.at_] at this; cases this
        obtain ⟨L7, P7⟩ := L6.add np hD P6 r6 nd6 (fun c hc => none_back (G := ⟨K, cl, pa⟩) L5.pu P5 (fr6 c hc)) nD (fun c hc z => (L5.rm.free c z).2.2 (fr6 c hc))
        refine ⟨acc, L6.at_, size_lt (m := xs.length) ?_ hxs, by omega, H06, ms ++ [x1], acc ++ [y], Fa ++ Fn, xs1, π6, L7, P7, e7, by rw [ex]; simp⟩
        have := L6.rm.length
        rw [this, ex]
        simp

/-- two clauses -/
def lcM1 (it1 : Env → MM (List D)) (tgf1 : D → Env → MM Env) (mt1 : Env → MM Bool) (mo : Env → MM M) (vs1 : List Nat) (ρ : Env) : MM (List M) := do
  let ds ← it1 ρ
  lcM tgf1 mt1 mo (wipeE ρ vs1) ds
def lcM2 (tgf : D → Env → MM Env) (mt : Env → MM Bool) (inner : Env → MM (List M)) (ρ : Env) : List D → MM (List M)
  | [] => pure []
  | d :: ds => do
    let ρ1 ← tgf d ρ
    let c ← mt ρ1
    if c then do
      let xs ← inner ρ1
      let ys ← lcM2 tgf mt inner ρ ds
      pure (xs ++ ys)
    else lcM2 tgf mt inner ρ ds
def oLc2 (it : Env → MM (List D)) (tgf : D → Env → MM Env) (mt : Env → MM Bool) (it1 : Env → MM (List D)) (tgf1 : D → Env → MM Env) (mt1 : Env → MM Bool) (mo : Env → MM M) (vs vs1 : List Nat) : Env → MM M := fun ρ => do
  let ds ← it ρ
  let xs ← lcM2 tgf mt (lcM1 it1 tgf1 mt1 mo vs1) (wipeE ρ vs) ds
  if xs.length ≤ 100000 then pure (.lst xs) else fail
theorem ro_lc2 {wi wi1 : TI} {it it1 : Env → MM (List D)} {g g1 : TG} {tgf tgf1 : D → Env → MM Env} {mo : Env → MM M} {vs vs1 : List Nat} (hi : Ri K cl wi it) (hg : Rgn K cl vs g tgf) (ht : Rt K cl t mt) (hi1 : Ri K cl wi1 it1) (hg1 : Rgn K cl vs1 g1 tgf1) (ht1 : Rt K cl u mu) (he : Ro K cl te mo) :
    Ro K cl (tLc2 wi g t wi1 g1 u te vs vs1) (oLc2 it tgf mt it1 tgf1 mu mo vs vs1) := by
  intro pa ρ σ H0 H F π x π' Q S P hm k
  obtain ⟨ds, π1, e1, hm⟩ := mm_bind_some hm
  obtain ⟨xs, π2, e2, hm⟩ := mm_bind_some hm
  by_cases hxs : xs.length ≤ 100000
  case neg => rw [if_neg hxs] at hm; cases hm
  rw [if_pos hxs] at hm
  cases hm
  refine hi pa ρ σ H0 H F π ds π1 _ S P e1 fun J H01 H1 s1 P1 wk => ?_
  intro Dl hD
  have np : Dl ≠ pa.a := ne_pa P1 hD
  obtain ⟨Fw, Sw, fw⟩ := (S.pure s1).wipe vs
  refine ⟨fun i m H' => i + m = ds.length ∧ ∃ H0' ms acc Fa es π3, Lcs ⟨K, cl, pa⟩ H01 H1 Dl H0' H' ms acc Fa ∧ PenAt ⟨K, cl, pa⟩ π3 H0' H' ∧ lcM2 tgf mt (lcM1 it1 tgf1 mu mo vs1) (wipeE ρ vs) (ds.drop i) π3 = some (es, π') ∧ xs = ms ++ es, ?_, ?_⟩
  · obtain ⟨L, P2⟩ := Lcs.start (G := ⟨K, cl, pa⟩) s1.inn P1 hD
    exact ⟨ds.length, by omega, H01, [], [], [], xs, π1, L, P2, by simpa using e2, rfl⟩
  · rintro i m H2 ⟨him, H02, ms, acc, Fa, es, π3, L, P2, hl, ex⟩
    cases m with
    | zero =>
      have hd : ds.drop i = [] := List.drop_eq_nil_of_le (by omega)
      rw [hd] at hl
      cases hl
      have : i = ds.length := by omega
      subst this
      rw [List.append_nil] at ex
      subst ex
      refine Or.inl ⟨wk.stop H02 H2 L.pu.inn L.pu.fz, ?_⟩
      refine k (.ref Dl) H02 H2 (Dl :: Fa) (s1.trans (fun _ => P1.pa) L.pu) P2 ?_ (List.nodup_cons.mpr ⟨L.nD, L.nd⟩) ?_
      · simp only [RepM]
        exact ⟨Dl, acc, Fa, rfl, rfl, L.no, np, L.at_, L.rm⟩
      · intro c hc
        refine none_back (G := ⟨K, cl, pa⟩) s1 P1 ?_
        rcases List.mem_cons.mp hc with z | z
        · rw [z]; exact hD
        · exact L.fr c z
    | succ m =>
      have hi3 : i < ds.length := by omega
      have hd : ds.drop i = ds[i] :: ds.drop (i + 1) := List.drop_eq_getElem_cons hi3
      rw [hd] at hl
      obtain ⟨ρ3, π4, e4, hl⟩ := mm_bind_some hl
      obtain ⟨c, π5, e5, hl⟩ := mm_bind_some hl
      obtain ⟨go, yl⟩ := wk.go i ds[i] H02 H2 π3 (List.getElem?_eq_getElem hi3) L.pu.inn L.pu.fz P2
      refine Or.inr ⟨go, fun H' => (i + 1) + m = ds.length ∧ ∃ H0' ms acc Fa es π3, Lcs ⟨K, cl, pa⟩ H01 H1 Dl H0' H' ms acc Fa ∧ PenAt ⟨K, cl, pa⟩ π3 H0' H' ∧ lcM2 tgf mt (lcM1 it1 tgf1 mu mo vs1) (wipeE ρ vs) (ds.drop (i + 1)) π3 = some (es, π') ∧ xs = ms ++ es,
        fun H' hN => ⟨m, Nat.lt_succ_self m, hN⟩, fun z H3 hy => ?_⟩
      obtain ⟨H03, s3, P3, r3⟩ := yl z H3 hy
      have L3 := L.pure np P2.pa s3
      refine hg pa (wipeE ρ vs) (wipe σ vs) H03 H3 Fw π3 ds[i] z ρ3 π4 _ (Sw.pure L3.pu) P3 r3 e4 fun σ4 F4 q4 S4 f4 w4 => ?_
      subst q4
      refine ⟨w4.trans (wipe_wipe σ vs), ht pa ρ3 σ4 H03 H3 F4 π4 c π5 _ S4 P3 e5 fun H05 H5 s5 P5 => ?_⟩
      have L5 := L3.pure np P3.pa s5
      cases c with
      | false => exact ⟨by omega, H05, ms, acc, Fa, es, π5, L5, P5, hl, ex⟩
      | true =>
        obtain ⟨x1, π6, e6, hl⟩ := mm_bind_some hl
        obtain ⟨xs1, π7, e7, hl⟩ := mm_bind_some hl
        cases hl
        obtain ⟨ds1, π8, e8, e6⟩ := mm_bind_some e6
        refine hi1 pa ρ3 σ4 H05 H5 F4 π5 ds1 π8 _ (S4.pure s5) P5 e8 fun J1 H07 H7 s7 P7 wk1 => ?_
        have L7 := L5.pure np P5.pa s7
        obtain ⟨Fv, Sv, fv⟩ := ((S4.pure s5).pure s7).wipe vs1
        have dq : Dl ∉ Fv := fun z => (S.env.free Dl (fw _ (f4 _ (fv _ z)))).2.2 (none_back (G := ⟨K, cl, pa⟩) s1 P1 hD)
        refine ⟨fun j m1 H' => j + m1 = ds1.length ∧ ∃ H0' ms' acc' Fa' es' π9, Lcs ⟨K, cl, pa⟩ H01 H1 Dl H0' H' ms' acc' Fa' ∧ Ex H07 H0' ∧ SA ⟨K, cl, pa⟩ (wipeE ρ3 vs1) (wipe σ4 vs1) H0' H' Fv ∧ PenAt ⟨K, cl, pa⟩ π9 H0' H' ∧ lcM tgf1 mu mo (wipeE ρ3 vs1) (ds1.drop j) π9 = some (es', π6) ∧ ms' ++ es' = ms ++ x1,
          ⟨ds1.length, by omega, H07, ms, acc, Fa, x1, π8, L7, Ex.refl _, Sv, P7, by simpa using e6, rfl⟩, ?_⟩
        rintro j m1 H8 ⟨hjm, H08, ms', acc', Fa', es', π9, L8, x8, Sq, P8, hl8, ex8⟩
        cases m1 with
        | zero =>
          have hd1 : ds1.drop j = [] := List.drop_eq_nil_of_le (by omega)
          rw [hd1] at hl8
          cases hl8
          have : j = ds1.length := by omega
          subst this
          rw [List.append_nil] at ex8
          subst ex8
          exact Or.inl ⟨wk1.stop H08 H8 L8.pu.inn x8, by omega, H08, ms ++ x1, acc', Fa', xs1, π6, L8, P8, e7, by rw [ex, List.append_assoc]⟩
        | succ m1 =>
          have hj3 : j < ds1.length := by omega
          have hd1 : ds1.drop j = ds1[j] :: ds1.drop (j + 1) := List.drop_eq_getElem_cons hj3
          rw [hd1] at hl8
          obtain ⟨ρ10, π10, e10, hl8⟩ := mm_bind_some hl8
          obtain ⟨c1, π11, e11, hl8⟩ := mm_bind_some hl8
          obtain ⟨go1, yl1⟩ := wk1.go j ds1[j] H08 H8 π9 (List.getElem?_eq_getElem hj3) L8.pu.inn x8 P8
          refine Or.inr ⟨go1, fun H' => (j + 1) + m1 = ds1.length ∧ ∃ H0' ms' acc' Fa' es' π9, Lcs ⟨K, cl, pa⟩ H01 H1 Dl H0' H' ms' acc' Fa' ∧ Ex H07 H0' ∧ SA ⟨K, cl, pa⟩ (wipeE ρ3 vs1) (wipe σ4 vs1) H0' H' Fv ∧ PenAt ⟨K, cl, pa⟩ π9 H0' H' ∧ lcM tgf1 mu mo (wipeE ρ3 vs1) (ds1.drop (j + 1)) π9 = some (es', π6) ∧ ms' ++ es' = ms ++ x1,
            fun H' hN => ⟨m1, Nat.lt_succ_self m1, hN⟩, fun z1 H9 hy1 => ?_⟩
          obtain ⟨H09, s9, P9, r9⟩ := yl1 z1 H9 hy1
          have L9 := L8.pure np P8.pa s9
          have Sq9 := Sq.pure s9
          refine hg1 pa (wipeE ρ3 vs1) (wipe σ4 vs1) H09 H9 Fv π9 ds1[j] z1 ρ10 π10 _ Sq9 P9 r9 e10 fun σ10 F10 q10 S10 f10 w10 => ?_
          subst q10
          refine ⟨w10.trans (wipe_wipe σ4 vs1), ht1 pa ρ10 σ10 H09 H9 F10 π10 c1 π11 _ S10 P9 e11 fun H0a Ha sa Pa => ?_⟩
          have La := L9.pure np P9.pa sa
          have Sqa := Sq9.pure sa
          cases c1 with
          | false => exact ⟨by omega, H0a, ms', acc', Fa', es', π11, La, (x8.trans s9.fz).trans sa.fz, Sqa, Pa, hl8, ex8⟩
          | true =>
            obtain ⟨y1, π12, e12, hl8⟩ := mm_bind_some hl8
            obtain ⟨ys1, π13, e13, hl8⟩ := mm_bind_some hl8
            cases hl8
            refine he pa ρ10 σ10 H0a Ha F10 π11 y1 π12 _ (S10.pure sa) Pa e12 fun y H0b Hb Fn sb Pb rb ndb frb => ?_
            have Lb := La.pure np Pa.pa sb
            have nD : ∀ c ∈ Fn, c ≠ Dl := fun c hc e => by have := frb c hc; rw [e, La.at_] at this; cases this
            obtain ⟨Lc, Pc⟩ := Lb.add np hD Pb rb ndb (fun c hc => none_back (G := ⟨K, cl, pa⟩) La.pu Pa (frb c hc)) nD (fun c hc z => (La.rm.free c z).2.2 (frb c hc))
            have Sqb := Sqa.pure sb
            refine ⟨acc', Lb.at_, size_lt (m := xs.length) ?_ hxs, by omega, H0b, ms' ++ [y1], acc' ++ [y], Fa' ++ Fn, ys1, π12, Lc, ((x8.trans s9.fz).trans sa.fz).trans sb.fz, Sqb.other dq Lb.no, Pc, e13, by rw [← ex8]; simp⟩
            have := Lb.rm.length
            rw [this, ex, ← List.append_assoc, ← ex8]
            simp
end
end DL
set_option Elab.async false
set_option linter.all false
set_option maxRecDepth 100000
set_option maxHeartbeats 4000000
namespace DL
open PySem L2

/-! ### set(xs) of a list of ints, behind it sorted: the roads of set(a tuple) turned to a list -/
section
variable {P : Program} {w : World} {A : Around} {E : Value → Shared → Prop} {s : Shared}
abbrev rawSet (w : World) : Obj := { cls := .type "set", dict := none, data := .set #[] 0 (.fresh 0 0 (!w.params.followText "set-order")) }
set_option maxHeartbeats 8000000 in
theorem set_of_list {l : Addr} {xs : Array Value} (ns : List Int) {Q : Value → Shared → Prop} (hh : A.handled = none) (hl : s.heap.IsList l xs) (hit : PyProof.Rows.IntsAre xs.toList ns) (hb : ns.length + 1 < scanBound)
    (h : ∀ (h' : Heap) (tk c : Nat), SetR w h' s.heap.objs.size (fun j => decide (j ∈ ns)) c → c ≤ ns.length → (∀ b o, s.heap.get? b = some o → h'.get? b = some o) → Q (.ref s.heap.objs.size) { s with heap := h', toks := tk }) :
    wpAny (model P w) A (call (.type "set") [.ref l]) Q E s := by
  have nSz : xs.size = ns.length := by have q := PyProof.Rows.IntsAre.length hit; rw [Array.length_toList] at q; exact q
  obtain ⟨c, tl, hmro⟩ := F.called_set.mro
  have made := F.called_set.made
  have sub0 := F.called_set.sub
  refine wpAny_call (codeAny_of_tree ?_)
  show wpAny _ _ (callAny (.type "set") _) _ _ _
  refine wpAny_pure ⟨Code.quiet_builtin _ (by decide +kernel), codeAny_builtin F.entry_type_call ?_⟩
  rw [Around.under_plain (weight_type_call_type "set" [.ref l] []) rfl]
  have c1 := F.called_set.notType
  have c2 := F.called_set.canCreate
  have c3 := F.typeCall_set_1 (.ref l)
  repeat (any_goals (first | assumption | wp_step))
  refine codeAny_mono (code_set_led1 (.ref l) (E := E) (Q₁ := fun ob s₁ => ob = .ref s.heap.objs.size ∧ s₁ = { s with heap := s.heap.push (rawSet w) }) ⟨rfl, rfl⟩) fun r s₁ hr => ?_
  cases r with
  | error e => exact hr
  | ok fl =>
    cases fl with
    | ret ob =>
      obtain ⟨rfl, rfl⟩ := hr
      have hS : (s.heap.push (rawSet w)).get? s.heap.objs.size = some (rawSet w) := Heap.get?_push_size _ rfl
      have hT : Shared.TypeIs { s with heap := s.heap.push (rawSet w) } (.ref s.heap.objs.size) "set" := ⟨_, hS, rfl⟩
      have c4 := F.called_set.init.lookup
      have c5 := F.called_set.init.bind (.ref s.heap.objs.size)
      repeat (any_goals (first | assumption | wp_step))
      refine codeAny_mono (codeAny_call_builtin (R := wants (fun r s₂ => r = .none ∧ ∃ h' tk c, s₂ = { s with heap := h', toks := tk } ∧ SetR w h' s.heap.objs.size (fun j => decide (j ∈ ns)) c ∧ c ≤ ns.length ∧ (∀ b o, s.heap.get? b = some o → h'.get? b = some o)) E)
        F.called_set.init.plain F.entry_set_init (check_set_init_1 hT ?_)) fun r₂ s₂ hr₂ => ?_
      · obtain ⟨ol, hol, hcl, nl, hdl⟩ := hl
        obtain ⟨ocls, odict, odata, oslots⟩ := ol
        simp only at hcl hdl
        subst hcl; subst hdl
        have q1 : (s.heap.push (rawSet w)).get? l = some { cls := .type "list", dict := odict, data := .seq xs nl, slots := oslots } := Heap.get?_push_of_some _ hol
        have q2 := F.sub_list_set
        have q3 := F.sub_list_frozenset
        have q4 : (Value.type "list" == Value.type "dict") = false := by decide
        have q5 : (s.heap.push (rawSet w)).IsList l xs := ⟨_, q1, rfl, nl, rfl⟩
        unfold Builtin.«set.__init__» noKeywords Builtin.Frozenset.updateFrom
        generalize hPI : pyIter = PI
        wp_walk
        subst hPI
        refine wpAny_pyIter_list q5 ?_
        refine wpAny_bind (wpAny_runValue ?_)
        have lS : l < s.heap.objs.size := Heap.lt_size hol
        have noH : A.in1.in1.in1.handled = none := by simp [hh]
        have neI : l ≠ (s.heap.push (rawSet w)).objs.size := by rw [Heap.size_push]; exact Nat.ne_of_lt (Nat.lt_succ_of_lt lS)
        have nSf : s.heap.objs.size ∉ [(s.heap.push (rawSet w)).objs.size, l] := by
          rw [Heap.size_push]; simp only [List.mem_cons, List.mem_singleton, List.not_mem_nil, or_false, not_or]
          exact ⟨Nat.ne_of_lt (Nat.lt_succ_self _), Nat.ne_of_gt lS⟩
        have val : ∀ (i : Nat) (v : Value), xs[i]? = some v → ∃ k t, ns[i]? = some k ∧ v = .int k t := fun i v hv => by
          have hi : i < ns.length := by rw [← nSz]; exact (Array.getElem?_eq_some_iff.mp hv).1
          obtain ⟨t, e⟩ := PyProof.Rows.IntsAre.int_at hit i v (by rw [Array.getElem?_toList]; exact hv)
          refine ⟨ns[i], t, List.getElem?_eq_getElem hi, ?_⟩
          rw [e, List.getD_eq_getElem?_getD, List.getElem?_eq_getElem hi] <;> rfl
        refine set_update_ints ((Walks.list noH _ l neI xs).toS) s.heap.objs.size nSf ns nSz hb val (xs.size - 0) 0 _ (by omega) (Nat.zero_le _) ⟨⟨_, Heap.get?_push_size _ rfl, rfl, rfl⟩, (q5.push _)⟩ ?hS0 ?hR
        case hS0 =>
          exact ⟨0, Nat.le_refl 0, setR_new_at (Heap.get?_push_of_some _ hS)⟩
        case hR =>
          intro s' c' hm hc' hS'
          obtain ⟨h', g2, d', tk', os'⟩ := s'
          have eg : g2 = s.gens := hm.gens
          have ed : d' = s.drawn := hm.drawn
          have eo : os' = s.os := hm.os
          subst eg; subst ed; subst eo
          show wpAny _ _ _ _ _ _
          refine wpAny_pure ?_
          show wpAny _ _ (ret Value.none) _ _ _
          rw [nSz] at hc'
          refine wpAny_pure ⟨rfl, h', tk', c', rfl, hS', hc', fun b o e => ?_⟩
          have b0 : b < s.heap.objs.size := Heap.lt_size e
          have b1 : b ≠ s.heap.objs.size := Nat.ne_of_lt b0
          have b2 : b ≠ (s.heap.push (rawSet w)).objs.size := by rw [Heap.size_push]; exact Nat.ne_of_lt (Nat.lt_succ_of_lt b0)
          exact hm.heap b o (by simp only [List.mem_cons, List.mem_singleton, List.not_mem_nil, or_false, not_or]; exact ⟨b1, b2⟩) (Heap.get?_push_of_some _ (Heap.get?_push_of_some _ e))
      · cases r₂ with
        | error e => exact hr₂
        | ok fl₂ =>
          cases fl₂ with
          | ret r =>
            obtain ⟨rfl, h', tk, c', rfl, hS', hc', hk'⟩ := hr₂
            repeat (any_goals (first | assumption | wp_step))
            exact h _ _ _ hS' hc' hk'
          | _ => exact hr₂.elim
    | _ => exact hr.elim
end
end DL
set_option Elab.async false
set_option linter.all false
set_option maxRecDepth 100000
set_option maxHeartbeats 4000000
namespace DL
open PySem L2
theorem setR_card {w : World} {h : Heap} {a : Addr} {S : Int → Bool} {n : Nat} (R : SetR w h a S n) {L : List Int} (hL : ∀ k, S k = true → k ∈ L) : n ≤ L.length := by
  obtain ⟨o, es, ep, t, ho, hx, hd, g, nd, hm, hb, hf, hn, _⟩ := R
  have h1 : (es.toList.map keyOf) ⊆ L := fun k hk => hL k ((hm k).mpr hk)
  have h2 := List.Nodup.length_le_of_subset nd h1
  rw [List.length_map, Array.length_toList, hn] at h2
  exact h2

/-! ### sorted(set(xs)) as one expression -/
def tSortedSet (K : PySem.W.Frag) (ta : TE) : TE := fun σ H Q => ta σ H fun x H1 => ∃ (l : Addr) (ns L : List Int), x = .ref l ∧ H1 l = some (.lst (ns.map V.int)) ∧ ns.length ≤ 4000 ∧ (∀ k, k ∈ ns → k ∈ L) ∧ L.length < 64 ∧
  ∀ (out : List Int) (p : Addr), out.Pairwise (· < ·) → (∀ k, k ∈ out ↔ k ∈ ns) → H1 p = none → Q (.ref p) (upd H1 p (.lst (out.map V.int)))
theorem pe_sortedSet {X : Cx} {a : Expr} {ta : TE} {p p2 q pos : Pos} (hg : Gl X "sorted") (hm : X.mg "sorted" = none) (hg2 : Gl X "set") (hm2 : X.mg "set" = none) (ha : PE X a ta) (hc : X.calm = true := by rfl)
    (na : starEach [a] X.env = (false, eval a X.env) :: starEach [] X.env := by rfl) : PE X (.Call (.Name "sorted" p) [.Call (.Name "set" p2) [a] [] q] [] pos) (tSortedSet X.K ta) := by
  refine ⟨fun pins s σ H Q I h => ?_⟩
  refine PyProof.Rows.Call_ (ld_blt I hg hm (u := .builtin "sorted") (by decide +kernel) ?_)
  refine PyProof.Rows.callWith_builtin1 (PyProof.Rows.args_cons ?_ rfl) rfl rfl
  refine PyProof.Rows.Call_ (ld_blt I hg2 hm2 (u := .type "set") (by decide +kernel) ?_)
  refine PyProof.Rows.callWith_type1 (PyProof.Rows.args_cons (thn (ha.run pins s σ H _ I h) fun v s1 ⟨x, H1, I1, r1, q1⟩ => PyProof.Rows.args_nil ?_) na) na rfl
  obtain ⟨l, ns, L, rfl, hq, hl, hL, h64, q1⟩ := q1
  cases r1
  obtain ⟨its, r, pl, hz⟩ := I1.list (show SqL X.K H1 l (ns.map V.int) from Or.inl (Or.inl hq))
  have hlen : its.toArray.size = ns.length := by rw [List.size_toArray, ← r.length, List.length_map]
  refine set_of_list ns (I1.ok.hd hc) pl.isList (by simpa using RZ.intsAre_vals r) (by unfold scanBound; omega) fun h' tk c hS hcn hk => ?_
  refine PyProof.Rows.args_nil ?_
  have I2 : Inv X pins σ H1 { s1 with heap := h', toks := tk } := I1.kept hk
  have hc64 : c < 64 := Nat.lt_of_le_of_lt (setR_card hS (L := L) (fun k hk => hL k (of_decide_eq_true hk))) h64
  refine sorted_set hS (I1.ok.hd hc) hc64 fun s' p2 out c2 ms k g o hp hg hi hs hmem hl2 => ?_
  have hlen2 : (ms.map V.int).length ≤ sizeLine := by rw [List.length_map, hl2, sizeLine_eq]; omega
  have hn : H1 p2 = none := I2.hok.fresh hp
  have J : Inv X pins σ (upd H1 p2 (.lst (ms.map V.int))) s' := I2.call' (ch := []) o (Un.laid k hp hn) (I2.hok.laid k hp ⟨hlen2, out.toList, c2, vals_of_ints hi, hg⟩) (by rw [g]; exact I1.bare) (fun _ z => nomatch z)
  exact ⟨.ref p2, _, J, rfl, q1 ms p2 hs (fun k => by rw [hmem k]; exact decide_eq_true_iff) hn⟩

/-- the mirror: sorted, each once -/
def insS (x : Int) : List Int → List Int
  | [] => [x]
  | y :: r => if x < y then x :: y :: r else if x = y then y :: r else y :: insS x r
def sortSet (ns : List Int) : List Int := ns.foldr insS []
theorem mem_insS {x k : Int} : ∀ {l : List Int}, k ∈ insS x l ↔ k = x ∨ k ∈ l
  | [] => by simp [insS]
  | y :: r => by
    unfold insS
    by_cases h1 : x < y
    · rw [if_pos h1]; simp
    · rw [if_neg h1]
      by_cases h2 : x = y
      · rw [if_pos h2]; subst h2; simp
      · rw [if_neg h2, List.mem_cons, mem_insS, List.mem_cons]
        constructor
        · rintro (h | h | h)
          · exact Or.inr (Or.inl h)
          · exact Or.inl h
          · exact Or.inr (Or.inr h)
        · rintro (h | h | h)
          · exact Or.inr (Or.inl h)
          · exact Or.inl h
          · exact Or.inr (Or.inr h)
theorem mem_sortSet {k : Int} : ∀ {ns : List Int}, k ∈ sortSet ns ↔ k ∈ ns
  | [] => by simp [sortSet]
  | x :: ns => by
    have : sortSet (x :: ns) = insS x (sortSet ns) := rfl
    rw [this, mem_insS, mem_sortSet, List.mem_cons]
theorem pw_insS {x : Int} : ∀ {l : List Int}, l.Pairwise (· < ·) → (insS x l).Pairwise (· < ·)
  | [], _ => by simp [insS]
  | y :: r, h => by
    unfold insS
    by_cases h1 : x < y
    · rw [if_pos h1]
      refine List.pairwise_cons.mpr ⟨fun z hz => ?_, h⟩
      rcases List.mem_cons.mp hz with e | e
      · rw [e]; exact h1
      · exact Int.lt_trans h1 ((List.pairwise_cons.mp h).1 z e)
    · rw [if_neg h1]
      by_cases h2 : x = y
      · rw [if_pos h2]; exact h
      · rw [if_neg h2]
        refine List.pairwise_cons.mpr ⟨fun z hz => ?_, pw_insS (List.pairwise_cons.mp h).2⟩
        rcases mem_insS.mp hz with e | e
        · rw [e]; omega
        · exact (List.pairwise_cons.mp h).1 z e
theorem pw_sortSet : ∀ {ns : List Int}, (sortSet ns).Pairwise (· < ·)
  | [] => List.Pairwise.nil
  | x :: ns => by
    have : sortSet (x :: ns) = insS x (sortSet ns) := rfl
    rw [this]; exact pw_insS pw_sortSet
theorem pw_unique : ∀ {l m : List Int}, l.Pairwise (· < ·) → m.Pairwise (· < ·) → (∀ k, k ∈ l ↔ k ∈ m) → l = m
  | [], [], _, _, _ => rfl
  | [], y :: m, _, _, h => by have := (h y).mpr (by simp); simp at this
  | x :: l, [], _, _, h => by have := (h x).mp (by simp); simp at this
  | x :: l, y :: m, h1, h2, h => by
    obtain ⟨a1, a2⟩ := List.pairwise_cons.mp h1
    obtain ⟨b1, b2⟩ := List.pairwise_cons.mp h2
    have hxy : x = y := by
      rcases List.mem_cons.mp ((h x).mp (by simp)) with e | e
      · exact e
      · rcases List.mem_cons.mp ((h y).mpr (by simp)) with e2 | e2
        · exact e2.symm
        · have := b1 x e; have := a1 y e2; omega
    subst hxy
    rw [pw_unique a2 b2 fun k => ?_]
    constructor
    · intro hk
      rcases List.mem_cons.mp ((h k).mp (List.mem_cons_of_mem _ hk)) with e | e
      · have := a1 k hk; omega
      · exact e
    · intro hk
      rcases List.mem_cons.mp ((h k).mpr (List.mem_cons_of_mem _ hk)) with e | e
      · have := b1 k hk; omega
      · exact e
end DL
set_option Elab.async false
set_option linter.all false
set_option maxRecDepth 100000
set_option maxHeartbeats 4000000
namespace DL
open PySem L2

section
variable {K : PySem.W.Frag} {cl : Nat → Addr}
variable {b bi bo : Bool} {ta tb tc te : TE} {ma mb mc me : Env → MM D} {t u : TT} {mt mu : Env → MM Bool} {tg : TA} {mg : Env → MM (List D)} {t1 t2 : TS} {m1 m2 : Env → MM Out}

/-! ### d[k], xs[i] -/
def rDG : R2 := fun x y H Q => ∃ a v, x = .ref a ∧ DGet H a y (some v) ∧ Q v H
theorem ix_dict {X : Cx} (hu : X.A.units + 1 < cLine) : IxR X rDG := by
  intro value slice pins s σ H x y v u Q I rx ry h hs
  obtain ⟨a, z, rfl, g, q⟩ := h
  obtain rfl : v = Value.ref a := rx
  exact PyProof.Rows.tail_any (ops := [.ref a, u]) (dict_typeIs I g) PySem.F.slot_dict_getitem.lookup (d_getItem hu I g ry fun w' s3 I3 rw' => ⟨z, H, I3, rw', q⟩) hs
def rSub (K : PySem.W.Frag) : R2 := fun x y H Q => rIx K x y H Q ∨ rDG x y H Q
theorem ix_sub {X : Cx} (hu : X.A.units + 1 < cLine) : IxR X (rSub X.K) := IxR.or ix_seq (ix_dict hu)
/-- the key that a datum is -/
def keyD : D → Option Key
  | .int i => some (.inl i)
  | .str s => some (.inr s)
  | _ => none
def keysD : List D → Option (List Key)
  | [] => some []
  | d :: ds => match keyD d, keysD ds with
    | some k, some ks => some (k :: ks)
    | _, _ => none
theorem keyD_rep {G : Gm} {H : Hp} {d : D} {v : V} {k : Key} (h : Rep G H d v) (e : keyD d = some k) : v = kV k := by
  cases d <;> simp only [keyD] at e <;> first | (cases e; done) | (cases e; simp only [Rep] at h; exact h)
theorem keysD_reps {G : Gm} {H : Hp} : ∀ {ds : List D} {vs : List V} {ks : List Key}, Reps G H ds vs → keysD ds = some ks → vs = ks.map kV
  | [], _, _, h, e => by simp only [keysD] at e; cases e; simp only [Reps] at h; exact h
  | d :: ds, _, _, h, e => by
    obtain ⟨v, r, q, h1, h2⟩ := h.cases
    simp only [keysD] at e
    cases e1 : keyD d with
    | none => rw [e1] at e; cases e
    | some k =>
      cases e2 : keysD ds with
      | none => rw [e1, e2] at e; cases e
      | some ks =>
        rw [e1, e2] at e; cases e
        subst q
        rw [keyD_rep h1 e1, keysD_reps h2 e2]; rfl
def look {κ : Type} [DecidableEq κ] : List κ → List D → κ → Option D
  | k :: ks, d :: ds, x => if k = x then some d else look ks ds x
  | _, _, _ => none
def LookR (G : Gm) (H : Hp) : Option D → Option V → Prop
  | some d, r => ∃ v, r = some v ∧ Rep G H d v
  | none, r => r = none
theorem look_rep {κ : Type} [DecidableEq κ] {G : Gm} {H : Hp} {x : κ} : ∀ {ks : List κ} {ds : List D} {vs : List V}, ks.length = vs.length → Reps G H ds vs → LookR G H (look ks ds x) (valV (ks.zip vs) x)
  | [], ds, vs, hl, h => by
    have : look ([] : List κ) ds x = none := by cases ds <;> rfl
    rw [this]; rfl
  | k :: ks, [], vs, hl, h => by simp only [Reps] at h; subst h; simp at hl
  | k :: ks, d :: ds, vs, hl, h => by
    obtain ⟨v, r, q, h1, h2⟩ := h.cases
    subst q
    simp only [look]
    by_cases e : k = x
    · rw [if_pos e]
      exact ⟨v, by rw [List.zip_cons_cons]; exact valV_pos e, h1⟩
    · rw [if_neg e, List.zip_cons_cons, valV_neg (p := (k, v)) e]
      exact look_rep (x := x) (by simpa using hl) h2
/-- a dict asked -/
def dLook (x y : D) : Option (Option D) := match x with
  | .dK ks ds => match keyD y with
    | some k => some (look ks ds k)
    | none => none
  | .dT ks ds => match y with
    | .tup es => match keysD es with
      | some k => some (look ks ds k)
      | none => none
    | _ => none
  | _ => none
theorem dLook_get {G : Gm} {H : Hp} {dx dy : D} {x y : V} {o : Option D} (rx : Rep G H dx x) (ry : Rep G H dy y) (h : dLook dx dy = some o) : ∃ a r, x = .ref a ∧ (∀ H', Ex H H' → DGet H' a y r) ∧ LookR G H o r := by
  unfold dLook at h
  cases dx with
  | dK ks ds =>
    simp only at h
    cases e : keyD dy with
    | none => rw [e] at h; cases h
    | some k =>
      rw [e] at h; cases h
      simp only [Rep] at rx
      obtain ⟨a, vs, rfl, h1, h2, h3⟩ := rx
      have hv := keyD_rep ry e
      subst hv
      have hl := look_rep (x := k) h2 h3
      exact ⟨a, valV (ks.zip vs) k, rfl, fun H' e => Or.inl ⟨_, k, Or.inl (e _ _ h1), rfl, rfl⟩, hl⟩
  | dT ks ds =>
    simp only at h
    cases dy with
    | tup es =>
      simp only at h
      cases e : keysD es with
      | none => rw [e] at h; cases h
      | some k =>
        rw [e] at h; cases h
        simp only [Rep] at rx ry
        obtain ⟨a, vs, rfl, h1, h2, h3⟩ := rx
        obtain ⟨c, ws, rfl, h4, h5⟩ := ry
        have hv := keysD_reps h5 e
        subst hv
        have hl := look_rep (x := k) h2 h3
        exact ⟨a, valV (ks.zip vs) k, rfl, fun H' e => Or.inr ⟨_, k, c, Or.inl (e _ _ h1), rfl, e _ _ h4, rfl⟩, hl⟩
    | _ => cases h
  | _ => cases h
theorem Reps.atI {G : Gm} {H : Hp} {ds : List D} {vs : List V} {i : Int} {d : D} (h : Reps G H ds vs) (e : L2.atI ds i = some d) : ∃ v, L2.atI vs i = some v ∧ Rep G H d v := by
  unfold L2.atI at e ⊢
  rw [h.length]
  cases q : ixN ds.length i with
  | none => rw [q] at e; cases e
  | some j =>
    rw [q] at e
    exact h.get e
def dSub2 (x y : D) : Option D := match x, y with
  | .lst ds, .int i => L2.atI ds i
  | .tup ds, .int i => L2.atI ds i
  | .str z, .int i => if z.length ≤ 100000 then (L2.atI z.cps.toList i).map fun c => .str ⟨#[c]⟩ else none
  | x, y => match dLook x y with
    | some (some d) => some d
    | _ => none
theorem r2_sub2 : R2k K cl true true (rSub K) dSub2 := by
  intro pa H0 H π x y dx dy d Q i P rx ry h k
  have e0 : Ex H0 H := i.trans ex_hid
  have dict : ∀ (h : (match dLook dx dy with | some (some d) => some d | _ => none) = some d), rSub K x y H Q := fun h => by
    cases q : dLook dx dy with
    | none => rw [q] at h; cases h
    | some o =>
      cases o with
      | none => rw [q] at h; cases h
      | some d' =>
        rw [q] at h; cases h
        obtain ⟨a, r, h1, h2, v, h3, h4⟩ := dLook_get rx ry q
        subst h3
        exact Or.inr ⟨a, v, h1, h2 H e0, k.here i P h4⟩
  cases dx with
  | lst ds => cases dy with
    | int n =>
      simp only [Rep, pick, if_true] at rx ry
      obtain ⟨a, vs, rfl, h1, h2⟩ := rx
      obtain ⟨v, h3, h4⟩ := h2.atI h
      exact Or.inl (Or.inl ⟨a, vs, n, v, rfl, ry, Or.inl (Or.inl (e0 _ _ h1)), h3, k.here i P h4⟩)
    | _ => exact dict h
  | tup ds => cases dy with
    | int n =>
      simp only [Rep, pick, if_true] at rx ry
      obtain ⟨a, vs, rfl, h1, h2⟩ := rx
      obtain ⟨v, h3, h4⟩ := h2.atI h
      exact Or.inl (Or.inr (Or.inl ⟨a, vs, n, v, rfl, ry, Or.inl (Or.inl (e0 _ _ h1)), h3, k.here i P h4⟩))
    | _ => exact dict h
  | str z => cases dy with
    | int n =>
      simp only [Rep] at rx ry
      simp only [dSub2] at h
      by_cases c : z.length ≤ 100000
      · rw [if_pos c] at h
        cases q : L2.atI z.cps.toList n with
        | none => rw [q] at h; cases h
        | some cc =>
          rw [q] at h; cases h
          exact Or.inl (Or.inr (Or.inr ⟨z, n, cc, rx, ry, size_ok c, q, k.here i P (by simp only [Rep])⟩))
      · rw [if_neg c] at h; cases h
    | _ => exact dict h
  | _ => exact dict h

/-! ### in -/
def rInA (K : PySem.W.Frag) (neg : Bool) : R2 := fun x y H Q => (∃ d ds, Dp K H x d ∧ Dp K H y (.list ds) ∧ SeqAt.shaped d = true ∧ SeqAt.shaped (.list ds) = true ∧ Q (.bl (if neg then !ds.any fun z => PyData.eqv z d else ds.any fun z => PyData.eqv z d)) H) ∨ rIn K neg x y H Q
theorem op_inA {X : Cx} (hu : X.A.units + 65 < cLine) : OpR X (compareOp .In) (rInA X.K false) := OpR.or (op_inD hu) op_in_seq
theorem op_notInA {X : Cx} (hu : X.A.units + 65 < cLine) : OpR X (compareOp .NotIn) (rInA X.K true) := OpR.or (op_notInD hu) op_notIn_seq
def flatD : D → Option V
  | .non => some .non
  | .bl b => some (.bl b)
  | .int i => some (.int i)
  | .str s => some (.str s)
  | _ => none
def flatDs : List D → Option (List V)
  | [] => some []
  | d :: ds => match flatD d, flatDs ds with
    | some v, some vs => some (v :: vs)
    | _, _ => none
theorem flatD_rep {G : Gm} {H : Hp} {d : D} {v w : V} (h : Rep G H d v) (e : flatD d = some w) : v = w ∧ flatV w = true := by
  cases d <;> simp only [flatD] at e <;> first | (cases e; done) | (cases e; simp only [Rep] at h; subst h; exact ⟨rfl, rfl⟩)
theorem flatDs_reps {G : Gm} {H : Hp} : ∀ {ds : List D} {vs ws : List V}, Reps G H ds vs → flatDs ds = some ws → vs = ws ∧ ws.all flatV = true
  | [], _, _, h, e => by simp only [flatDs] at e; cases e; simp only [Reps] at h; exact ⟨h, rfl⟩
  | d :: ds, _, _, h, e => by
    obtain ⟨v, r, q, h1, h2⟩ := h.cases
    simp only [flatDs] at e
    cases e1 : flatD d with
    | none => rw [e1] at e; cases e
    | some w =>
      cases e2 : flatDs ds with
      | none => rw [e1, e2] at e; cases e
      | some ws =>
        rw [e1, e2] at e; cases e
        obtain ⟨a1, a2⟩ := flatD_rep h1 e1
        obtain ⟨a3, a4⟩ := flatDs_reps h2 e2
        subst q
        rw [a1, a3, List.all_cons, a2, a4]; exact ⟨rfl, rfl⟩
def dInB (x y : D) : Option Bool := match y with
  | .lst ds => match toPy x, toPys ds with
    | some p, some ps => if SeqAt.shaped p && SeqAt.shaped (.list ps) then some (ps.any fun z => PyData.eqv z p) else none
    | _, _ => none
  | .tup ds => match flatD x, flatDs ds with
    | some v, some vs => some (inV v vs)
    | _, _ => none
  | _ => none
def dIn (x y : D) : Option D := (dInB x y).map .bl
def dNotIn (x y : D) : Option D := (dInB x y).map fun c => .bl (!c)
theorem inA_ok {neg : Bool} {pa : PA} {H0 H : Hp} {x y : V} {dx dy : D} {c : Bool} {Q : VK} (i : Ex H0 (hid ⟨K, cl, pa⟩ H)) (rx : Rep ⟨K, cl, pa⟩ (pick bi H0 (hid ⟨K, cl, pa⟩ H)) dx x) (ry : Rep ⟨K, cl, pa⟩ (pick bi H0 (hid ⟨K, cl, pa⟩ H)) dy y) (h : dInB dx dy = some c)
    (k : Q (.bl (if neg then !c else c)) H) : rInA K neg x y H Q := by
  unfold dInB at h
  cases dy with
  | lst ds =>
    simp only at h
    cases h1 : toPy dx with
    | none => rw [h1] at h; cases h
    | some p =>
      cases h2 : toPys ds with
      | none => rw [h1, h2] at h; cases h
      | some ps =>
        rw [h1, h2] at h
        simp only at h
        by_cases hs : (SeqAt.shaped p && SeqAt.shaped (.list ps)) = true
        · rw [if_pos hs] at h
          cases h
          rw [Bool.and_eq_true] at hs
          exact Or.inl ⟨p, ps, rx.dpH i h1, ry.dpH i (by simp only [toPy, h2, Option.map_some]), hs.1, hs.2, k⟩
        · rw [if_neg hs] at h; cases h
  | tup ds =>
    simp only at h
    cases h1 : flatD dx with
    | none => rw [h1] at h; cases h
    | some v =>
      cases h2 : flatDs ds with
      | none => rw [h1, h2] at h; cases h
      | some vs =>
        rw [h1, h2] at h; cases h
        obtain ⟨a1, a2⟩ := flatD_rep rx h1
        simp only [Rep] at ry
        obtain ⟨a, ws, rfl, h3, h4⟩ := ry
        obtain ⟨a3, a4⟩ := flatDs_reps h4 h2
        subst a1 a3
        exact Or.inr ⟨a, ws, rfl, Or.inr (Or.inl (Or.inl ((pick_to i).trans ex_hid _ _ h3))), a2, a4, k⟩
  | _ => cases h
theorem r2_in : R2k K cl bi bo (rInA K false) dIn := by
  intro pa H0 H π x y dx dy d Q i P rx ry h k
  unfold dIn at h
  cases hc : dInB dx dy with
  | none => rw [hc] at h; cases h
  | some c =>
    rw [hc] at h; cases h
    exact inA_ok (neg := false) i rx ry hc (k.here i P (by simp only [Rep]; rfl))
theorem r2_notIn : R2k K cl bi bo (rInA K true) dNotIn := by
  intro pa H0 H π x y dx dy d Q i P rx ry h k
  unfold dNotIn at h
  cases hc : dInB dx dy with
  | none => rw [hc] at h; cases h
  | some c =>
    rw [hc] at h; cases h
    exact inA_ok (neg := true) i rx ry hc (k.here i P (by simp only [Rep]; rfl))
/-- k in d, of a dict -/
def eInD (neg : Bool) (ma mb : Env → MM D) : Env → MM D := fun ρ => do
  let y ← ma ρ
  let x ← mb ρ
  match dLook x y with
  | some o => pure (.bl (if neg then !o.isSome else o.isSome))
  | none => fail
theorem din_core {neg : Bool} {pa : PA} {ρ : Env} {σ : L2.St} {H0 H : Hp} {F : List Addr} {π π' : Pen} {d : D} {Q : VK} (ha : Rf K cl true ta ma) (hb : Rf K cl true tb mb) (S : SA ⟨K, cl, pa⟩ ρ σ H0 H F) (P : PenAt ⟨K, cl, pa⟩ π H0 H) (hm : eInD neg ma mb ρ π = some (d, π')) (k : Kont ⟨K, cl, pa⟩ b H0 H d π' Q) :
    ta σ H fun y H1 => tb σ H1 fun x H2 => ∃ a o, x = .ref a ∧ DGet H2 a y o ∧ Q (.bl (if neg then !o.isSome else o.isSome)) H2 := by
  obtain ⟨y, π1, e1, hm⟩ := mm_bind_some hm
  obtain ⟨x, π2, e2, hm⟩ := mm_bind_some hm
  refine ha pa ρ σ H0 H F π y π1 _ S P e1 fun v H01 H1 s1 P1 r1 => ?_
  refine hb pa ρ σ H01 H1 F π1 x π2 _ (S.pure s1) P1 e2 fun w H02 H2 s2 P2 r2 => ?_
  cases q : dLook x y with
  | none => rw [q] at hm; cases hm
  | some o =>
    rw [q] at hm; cases hm
    obtain ⟨a, r, h1, h2, h3⟩ := dLook_get r2 (Rep.mono s2.fz r1) q
    refine ⟨a, r, h1, h2 H2 (s2.inn.trans ex_hid), ?_⟩
    have : o.isSome = r.isSome := by
      cases o with
      | none => rw [show r = none from h3]; rfl
      | some d => obtain ⟨v, h4, _⟩ := h3; rw [h4]; rfl
    rw [← this]
    exact ((k.pre P1 s1).pre P2 s2).here s2.inn P2 (by simp only [Rep])
theorem rf_din (ha : Rf K cl true ta ma) (hb : Rf K cl true tb mb) : Rf K cl b (tDIn ta tb) (eInD false ma mb) := by
  intro pa ρ σ H0 H F π d π' Q S P hm k
  exact din_core (neg := false) ha hb S P hm k
theorem rf_dnotin (ha : Rf K cl true ta ma) (hb : Rf K cl true tb mb) : Rf K cl b (tDNotIn ta tb) (eInD true ma mb) := by
  intro pa ρ σ H0 H F π d π' Q S P hm k
  exact din_core (neg := true) ha hb S P hm k
/-- d.get(k, x) -/
def eGet2 (md my mx : Env → MM D) : Env → MM D := fun ρ => do
  let d ← md ρ
  let y ← my ρ
  let z ← mx ρ
  match dLook d y with
  | some (some v) => pure v
  | some none => pure z
  | none => fail
theorem isD_of {G : Gm} {H H' : Hp} {d y : D} {v : V} {a : Addr} {o : Option D} (e : Ex H H') (r : Rep G H d v) (ev : v = .ref a) (h : dLook d y = some o) : IsD H' a := by
  unfold dLook at h
  cases d with
  | dK ks ds =>
    simp only [Rep] at r
    obtain ⟨c, vs, h1, h2, _⟩ := r
    rw [ev] at h1; cases h1
    exact Or.inl ⟨_, Or.inl (e _ _ h2)⟩
  | dT ks ds =>
    simp only [Rep] at r
    obtain ⟨c, vs, h1, h2, _⟩ := r
    rw [ev] at h1; cases h1
    exact Or.inr ⟨_, Or.inl (e _ _ h2)⟩
  | _ => cases h
theorem rf_get2 (hd : Rf K cl true ta ma) (hy : Rf K cl true tb mb) (hx : Rf K cl true tc mc) : Rf K cl b (tDGet2 ta tb tc) (eGet2 ma mb mc) := by
  intro pa ρ σ H0 H F π d π' Q S P hm k
  obtain ⟨x, π1, e1, hm⟩ := mm_bind_some hm
  obtain ⟨y, π2, e2, hm⟩ := mm_bind_some hm
  obtain ⟨z, π3, e3, hm⟩ := mm_bind_some hm
  cases q : dLook x y with
  | none => rw [q] at hm; cases hm
  | some o =>
  refine hd pa ρ σ H0 H F π x π1 _ S P e1 fun v H01 H1 s1 P1 r1 => ?_
  have hr : ∃ a, v = .ref a := by
    unfold dLook at q
    cases x with
    | dK ks ds => simp only [Rep] at r1; obtain ⟨a, _, h, _⟩ := r1; exact ⟨a, h⟩
    | dT ks ds => simp only [Rep] at r1; obtain ⟨a, _, h, _⟩ := r1; exact ⟨a, h⟩
    | _ => cases q
  obtain ⟨a, ev⟩ := hr
  refine ⟨a, ev, isD_of (s1.inn.trans ex_hid) r1 ev q, ?_⟩
  refine hy pa ρ σ H01 H1 F π1 y π2 _ (S.pure s1) P1 e2 fun w H02 H2 s2 P2 r2 => ?_
  refine hx pa ρ σ H02 H2 F π2 z π3 _ ((S.pure s1).pure s2) P2 e3 fun zv H03 H3 s3 P3 r3 => ?_
  obtain ⟨a', r, h1, h2, h3⟩ := dLook_get (Rep.mono (s2.fz.trans s3.fz) r1) (Rep.mono s3.fz r2) q
  rw [ev] at h1
  cases h1
  have k3 := ((k.pre P1 s1).pre P2 s2).pre P3 s3
  refine ⟨r, h2 H3 (s3.inn.trans ex_hid), ?_⟩
  rw [q] at hm
  cases o with
  | none =>
    cases hm
    rw [show r = none from h3]
    exact k3.here s3.inn P3 (Rep.mono (pick_of0 s3.inn) r3)
  | some d' =>
    cases hm
    obtain ⟨v', h4, h5⟩ := h3
    rw [h4]
    exact k3.here s3.inn P3 (Rep.mono (pick_of0 s3.inn) h5)

/-! ### slices -/
def Rto (K : PySem.W.Frag) (cl : Nat → Addr) (to : TO) (m : Env → MM (Option Int)) : Prop := ∀ (pa : PA) (ρ : Env) (σ : L2.St) (H0 H : Hp) (F : List Addr) (π : Pen) (o : Option Int) (π' : Pen) (Q : Option Int → Hp → Prop),
  SA ⟨K, cl, pa⟩ ρ σ H0 H F → PenAt ⟨K, cl, pa⟩ π H0 H → m ρ π = some (o, π') → (∀ H0' H', Pure ⟨K, cl, pa⟩ H0 H H0' H' → PenAt ⟨K, cl, pa⟩ π' H0' H' → Q o H') → to σ H Q
def oNo : Env → MM (Option Int) := fun _ => pure none
def oYes (me : Env → MM D) : Env → MM (Option Int) := fun ρ => do
  let d ← me ρ
  match d with
  | .int i => pure (some i)
  | _ => fail
theorem rto_none : Rto K cl tNoPart oNo := by
  intro pa ρ σ H0 H F π o π' Q S P hm k
  cases hm
  exact k H0 H (Pure.refl S.i0) P
theorem rto_some (h : Rf K cl true te me) : Rto K cl (tPart te) (oYes me) := by
  intro pa ρ σ H0 H F π o π' Q S P hm k
  obtain ⟨d, π1, e1, hm⟩ := mm_bind_some hm
  refine h pa ρ σ H0 H F π d π1 _ S P e1 fun v H01 H1 s1 P1 r1 => ?_
  cases d with
  | int i =>
    cases hm
    simp only [Rep] at r1
    exact ⟨i, r1, k H01 H1 s1 P1⟩
  | _ => cases hm
def rSlQ (K : PySem.W.Frag) : V → Option Int → Option Int → Hp → VK → Prop := fun x lo hi H Q => rSlL K x lo hi H Q ∨ rSlA K x lo hi H Q
theorem sl_q {X : Cx} : SlR X (rSlQ X.K) := SlR.or sl_list sl_tupA
def cutD (xs : List D) (lo hi : Option Int) : List D := (xs.drop (HT.sIx xs.length 0 lo)).take (HT.sIx xs.length xs.length hi - HT.sIx xs.length 0 lo)
theorem Reps.cut {G : Gm} {H : Hp} {ds : List D} {vs : List V} (h : Reps G H ds vs) (lo hi : Option Int) : Reps G H (cutD ds lo hi) (cutV vs lo hi) := by
  unfold cutD cutV
  rw [h.length]
  exact (h.drop _).take _
def eSl (me : Env → MM D) (ml mh : Env → MM (Option Int)) : Env → MM D := fun ρ => do
  let d ← me ρ
  let lo ← ml ρ
  let hi ← mh ρ
  match d with
  | .lst ds => pure (.lst (cutD ds lo hi))
  | .tup ds => pure (.tup (cutD ds lo hi))
  | _ => fail
theorem rf_sl {tl th : TO} {ml mh : Env → MM (Option Int)} (h : Rf K cl true te me) (h1 : Rto K cl tl ml) (h2 : Rto K cl th mh) : Rf K cl b (tSl (rSlQ K) te tl th) (eSl me ml mh) := by
  intro pa ρ σ H0 H F π d π' Q S P hm k
  obtain ⟨x, π1, e1, hm⟩ := mm_bind_some hm
  obtain ⟨lo, π2, e2, hm⟩ := mm_bind_some hm
  obtain ⟨hi, π3, e3, hm⟩ := mm_bind_some hm
  refine h pa ρ σ H0 H F π x π1 _ S P e1 fun v H01 H1 s1 P1 r1 => ?_
  refine h1 pa ρ σ H01 H1 F π1 lo π2 _ (S.pure s1) P1 e2 fun H02 H2 s2 P2 => ?_
  refine h2 pa ρ σ H02 H2 F π2 hi π3 _ ((S.pure s1).pure s2) P2 e3 fun H03 H3 s3 P3 => ?_
  have k3 := ((k.pre P1 s1).pre P2 s2).pre P3 s3
  have r3 := Rep.mono (s2.fz.trans s3.fz) r1
  have e3' : Ex H03 H3 := s3.inn.trans ex_hid
  cases x with
  | lst ds =>
    cases hm
    simp only [Rep] at r3
    obtain ⟨a, vs, rfl, g1, g2⟩ := r3
    refine Or.inl ⟨a, vs, rfl, Or.inl (Or.inl (e3' _ _ g1)), fun p hp => ?_⟩
    obtain ⟨s4, P4, g4⟩ := alloc (o := .lst (cutV vs lo hi)) s3.inn P3 hp
    refine k3 (.ref p) _ _ s4 P4 ?_
    simp only [Rep]
    exact ⟨p, _, rfl, g4 b, (Reps.mono ((pick_of0 s3.inn).trans (pick_mono s4)) g2).cut lo hi⟩
  | tup ds =>
    cases hm
    have r3' := r3
    simp only [Rep] at r3
    obtain ⟨a, vs, rfl, g1, g2⟩ := r3
    refine Or.inr ⟨a, vs, rfl, Or.inl (Or.inl (e3' _ _ g1)), fun hw => ?_, fun hw p hp => ?_⟩
    · refine k3.here s3.inn P3 (Rep.mono (pick_of0 s3.inn) ?_)
      have : cutD ds lo hi = ds := by
        unfold cutD
        rw [← g2.length, hw.1, hw.2, List.drop_zero, Nat.sub_zero, g2.length, List.take_length]
      rw [this]; exact r3'
    · obtain ⟨s4, P4, g4⟩ := alloc (o := .tup (cutV vs lo hi)) s3.inn P3 hp
      refine k3 (.ref p) _ _ s4 P4 ?_
      simp only [Rep]
      exact ⟨p, _, rfl, g4 b, (Reps.mono ((pick_of0 s3.inn).trans (pick_mono s4)) g2).cut lo hi⟩
  | _ => cases hm

/-! ### calls by values -/
def eCall (f : List D → Option D) (mg : Env → MM (List D)) : Env → MM D := fun ρ => do
  let ds ← mg ρ
  ofO (f ds)
theorem rf_cb {r : List V → Hp → VK → Prop} {f : List D → Option D} (h : Ra K cl bi tg mg) (hr : Rck K cl bi bo r f) : Rf K cl bo (tCB r tg) (eCall f mg) := by
  intro pa ρ σ H0 H F π d π' Q S P hm k
  obtain ⟨ds, π1, e1, hm⟩ := mm_bind_some hm
  obtain ⟨h3, rfl⟩ := ofO_some hm
  refine h pa ρ σ H0 H F π ds π' _ S P e1 fun vs H01 H1 s1 P1 r1 => ?_
  exact hr pa H01 H1 π' vs ds d Q s1.inn P1 r1 h3 (k.pre P1 s1)
def rLenA (K : PySem.W.Frag) : List V → Hp → VK → Prop := fun xs H Q => (∃ x n, xs = [x] ∧ LenV K x H n ∧ Q (.int n) H) ∨ ((∃ a kvs, xs = [V.ref a] ∧ H a = some (.dK kvs) ∧ Q (.int kvs.length) H) ∨ rLenT xs H Q)
theorem call_lenA {X : Cx} : CallR X (.builtin "len") (rLenA X.K) := CallR.or call_len (CallR.or call_lenD call_len_dT)
def dLen (ds : List D) : Option D := match ds with
  | [.lst ds] => some (.int ds.length)
  | [.tup ds] => some (.int ds.length)
  | [.str z] => if z.length ≤ 100000 then some (.int z.length) else none
  | [.dK ks ds] => some (.int ds.length)
  | [.dT ks ds] => some (.int ds.length)
  | _ => none
theorem one_rep {G : Gm} {H : Hp} {d : D} {vs : List V} (h : Reps G H [d] vs) : ∃ v, vs = [v] ∧ Rep G H d v := by
  obtain ⟨v, r, q, h1, h2⟩ := h.cases
  simp only [Reps] at h2
  subst h2
  exact ⟨v, q, h1⟩
theorem zip_len {κ : Type} {ks : List κ} {vs : List V} (h : ks.length = vs.length) : (ks.zip vs).length = vs.length := by rw [List.length_zip, h, Nat.min_self]
theorem rc_len : Rck K cl bi bo (rLenA K) dLen := by
  intro pa H0 H π vs ds d Q i P rs h k
  have e0 := (pick_to (b := bi) i).trans ex_hid
  match ds, h, rs with
  | [.lst ds], h, rs =>
    cases h
    obtain ⟨v, rfl, r⟩ := one_rep rs
    simp only [Rep] at r
    obtain ⟨a, ws, rfl, h1, h2⟩ := r
    exact Or.inl ⟨_, ws.length, rfl, Or.inl ⟨ws, Or.inl (Or.inl (e0 _ _ h1)), rfl⟩, by rw [h2.length]; exact k.here i P (by simp only [Rep])⟩
  | [.tup ds], h, rs =>
    cases h
    obtain ⟨v, rfl, r⟩ := one_rep rs
    simp only [Rep] at r
    obtain ⟨a, ws, rfl, h1, h2⟩ := r
    exact Or.inl ⟨_, ws.length, rfl, Or.inr ⟨ws, Or.inl (Or.inl (e0 _ _ h1)), rfl⟩, by rw [h2.length]; exact k.here i P (by simp only [Rep])⟩
  | [.str z], h, rs =>
    obtain ⟨v, rfl, r⟩ := one_rep rs
    simp only [Rep] at r
    subst r
    simp only [dLen] at h
    by_cases c : z.length ≤ 100000
    · rw [if_pos c] at h; cases h
      exact Or.inl ⟨_, z.length, rfl, ⟨size_ok c, rfl⟩, k.here i P (by simp only [Rep])⟩
    · rw [if_neg c] at h; cases h
  | [.dK ks ds], h, rs =>
    cases h
    obtain ⟨v, rfl, r⟩ := one_rep rs
    simp only [Rep] at r
    obtain ⟨a, ws, rfl, h1, h2, h3⟩ := r
    exact Or.inr (Or.inl ⟨a, _, rfl, e0 _ _ h1, by rw [zip_len h2, h3.length]; exact k.here i P (by simp only [Rep])⟩)
  | [.dT ks ds], h, rs =>
    cases h
    obtain ⟨v, rfl, r⟩ := one_rep rs
    simp only [Rep] at r
    obtain ⟨a, ws, rfl, h1, h2, h3⟩ := r
    exact Or.inr (Or.inr ⟨a, _, rfl, e0 _ _ h1, by rw [zip_len h2, h3.length]; exact k.here i P (by simp only [Rep])⟩)
/-- int(x) -/
def dInt (ds : List D) : Option D := match ds with
  | [.int i] => some (.int i)
  | [.bl c] => some (.int (if c then 1 else 0))
  | _ => none
theorem rc_int : Rck K cl bi bo (fun xs H Q => (∃ i, xs = [.int i] ∧ Q (.int i) H) ∨ ∃ k, xs = [.bl k] ∧ Q (.int (if k then 1 else 0)) H) dInt := by
  intro pa H0 H π vs ds d Q i P rs h k
  match ds, h, rs with
  | [.int n], h, rs =>
    cases h
    obtain ⟨v, rfl, r⟩ := one_rep rs
    simp only [Rep] at r
    subst r
    exact Or.inl ⟨n, rfl, k.here i P (by simp only [Rep])⟩
  | [.bl c], h, rs =>
    cases h
    obtain ⟨v, rfl, r⟩ := one_rep rs
    simp only [Rep] at r
    subst r
    exact Or.inr ⟨c, rfl, k.here i P (by simp only [Rep])⟩
/-- rows of ints, of bools -/
def intsD : List D → Option (List Int)
  | [] => some []
  | .int i :: r => (intsD r).map (i :: ·)
  | _ => none
def blsD : List D → Option (List Bool)
  | [] => some []
  | .bl i :: r => (blsD r).map (i :: ·)
  | _ => none
theorem intsD_eq : ∀ {ds : List D} {ns : List Int}, intsD ds = some ns → ds = ns.map D.int
  | [], _, h => by cases h; rfl
  | .int i :: r, _, h => by
    simp only [intsD] at h
    cases q : intsD r with
    | none => rw [q] at h; cases h
    | some ms => rw [q] at h; cases h; rw [intsD_eq q]; rfl
  | .non :: _, _, h => by cases h
  | .bl _ :: _, _, h => by cases h
  | .str _ :: _, _, h => by cases h
  | .tup _ :: _, _, h => by cases h
  | .lst _ :: _, _, h => by cases h
  | .dK _ _ :: _, _, h => by cases h
  | .dT _ _ :: _, _, h => by cases h
  | .ins _ _ _ :: _, _, h => by cases h
  | .pen :: _, _, h => by cases h
  | .ty _ :: _, _, h => by cases h
  | .cls _ :: _, _, h => by cases h
theorem blsD_eq : ∀ {ds : List D} {ns : List Bool}, blsD ds = some ns → ds = ns.map D.bl
  | [], _, h => by cases h; rfl
  | .bl i :: r, _, h => by
    simp only [blsD] at h
    cases q : blsD r with
    | none => rw [q] at h; cases h
    | some ms => rw [q] at h; cases h; rw [blsD_eq q]; rfl
  | .non :: _, _, h => by cases h
  | .int _ :: _, _, h => by cases h
  | .str _ :: _, _, h => by cases h
  | .tup _ :: _, _, h => by cases h
  | .lst _ :: _, _, h => by cases h
  | .dK _ _ :: _, _, h => by cases h
  | .dT _ _ :: _, _, h => by cases h
  | .ins _ _ _ :: _, _, h => by cases h
  | .pen :: _, _, h => by cases h
  | .ty _ :: _, _, h => by cases h
  | .cls _ :: _, _, h => by cases h
theorem intsD_map : ∀ ns : List Int, intsD (ns.map D.int) = some ns
  | [] => rfl
  | n :: ns => by simp only [List.map_cons, intsD, intsD_map ns, Option.map_some]
theorem blsD_map : ∀ ns : List Bool, blsD (ns.map D.bl) = some ns
  | [] => rfl
  | n :: ns => by simp only [List.map_cons, blsD, blsD_map ns, Option.map_some]
def dInts (f : List Int → Option D) (ds : List D) : Option D := match ds with
  | [.lst xs] => (intsD xs).bind f
  | _ => none
def dBls (f : List Bool → Option D) (ds : List D) : Option D := match ds with
  | [.lst xs] => (blsD xs).bind f
  | _ => none
theorem ints_core {pa : PA} {H0 H : Hp} {vs : List V} {ds : List D} {d : D} {f : List Int → Option D} (i : Ex H0 (hid ⟨K, cl, pa⟩ H)) (rs : Reps ⟨K, cl, pa⟩ (pick bi H0 (hid ⟨K, cl, pa⟩ H)) ds vs) (h : dInts f ds = some d) :
    ∃ a ns, vs = [V.ref a] ∧ H a = some (.lst (ns.map V.int)) ∧ f ns = some d := by
  match ds, h, rs with
  | [.lst xs], h, rs =>
    simp only [dInts] at h
    cases q : intsD xs with
    | none => rw [q] at h; cases h
    | some ns =>
      rw [q] at h
      have e := intsD_eq q
      subst e
      obtain ⟨v, rfl, r⟩ := one_rep rs
      simp only [Rep] at r
      obtain ⟨a, ws, rfl, h1, h2⟩ := r
      have := Reps.of_ints h2
      subst this
      exact ⟨a, ns, rfl, (pick_to i).trans ex_hid _ _ h1, h⟩
theorem bls_core {pa : PA} {H0 H : Hp} {vs : List V} {ds : List D} {d : D} {f : List Bool → Option D} (i : Ex H0 (hid ⟨K, cl, pa⟩ H)) (rs : Reps ⟨K, cl, pa⟩ (pick bi H0 (hid ⟨K, cl, pa⟩ H)) ds vs) (h : dBls f ds = some d) :
    ∃ a ns, vs = [V.ref a] ∧ H a = some (.lst (ns.map V.bl)) ∧ f ns = some d := by
  match ds, h, rs with
  | [.lst xs], h, rs =>
    simp only [dBls] at h
    cases q : blsD xs with
    | none => rw [q] at h; cases h
    | some ns =>
      rw [q] at h
      have e := blsD_eq q
      subst e
      obtain ⟨v, rfl, r⟩ := one_rep rs
      simp only [Rep] at r
      obtain ⟨a, ws, rfl, h1, h2⟩ := r
      have := Reps.of_bls h2
      subst this
      exact ⟨a, ns, rfl, (pick_to i).trans ex_hid _ _ h1, h⟩
def dSum : List D → Option D := dInts fun ns => some (.int ns.sum)
theorem rc_sum : Rck K cl bi bo (rSum K) dSum := by
  intro pa H0 H π vs ds d Q i P rs h k
  obtain ⟨a, ns, rfl, h1, h2⟩ := ints_core i rs h
  cases h2
  exact ⟨a, ns, rfl, Or.inl (Or.inl h1), k.here i P (by simp only [Rep])⟩
def maxI : List Int → Int
  | [] => 0
  | x :: r => r.foldl max x
def minI : List Int → Int
  | [] => 0
  | x :: r => r.foldl min x
theorem foldl_max_ge : ∀ (r : List Int) (x : Int), x ≤ r.foldl max x ∧ (∀ y ∈ r, y ≤ r.foldl max x) ∧ (r.foldl max x = x ∨ r.foldl max x ∈ r)
  | [], x => ⟨Int.le_refl _, by simp, Or.inl rfl⟩
  | z :: r, x => by
    obtain ⟨h1, h2, h3⟩ := foldl_max_ge r (max x z)
    rw [List.foldl_cons]
    refine ⟨by omega, fun y hy => ?_, ?_⟩
    · rcases List.mem_cons.mp hy with e | e
      · rw [e]; omega
      · exact h2 y e
    · rcases h3 with e | e
      · rw [e]
        rcases Int.le_total x z with q | q
        · right; rw [Int.max_eq_right q]; simp
        · left; exact Int.max_eq_left q
      · right; exact List.mem_cons_of_mem _ e
theorem foldl_min_le : ∀ (r : List Int) (x : Int), r.foldl min x ≤ x ∧ (∀ y ∈ r, r.foldl min x ≤ y) ∧ (r.foldl min x = x ∨ r.foldl min x ∈ r)
  | [], x => ⟨Int.le_refl _, by simp, Or.inl rfl⟩
  | z :: r, x => by
    obtain ⟨h1, h2, h3⟩ := foldl_min_le r (min x z)
    rw [List.foldl_cons]
    refine ⟨by omega, fun y hy => ?_, ?_⟩
    · rcases List.mem_cons.mp hy with e | e
      · rw [e]; omega
      · exact h2 y e
    · rcases h3 with e | e
      · rw [e]
        rcases Int.le_total x z with q | q
        · left; exact Int.min_eq_left q
        · right; rw [Int.min_eq_right q]; simp
      · right; exact List.mem_cons_of_mem _ e
def dMax : List D → Option D := dInts fun ns => if ns = [] then none else some (.int (maxI ns))
def dMin : List D → Option D := dInts fun ns => if ns = [] then none else some (.int (minI ns))
theorem rc_max : Rck K cl bi bo (rMax K) dMax := by
  intro pa H0 H π vs ds d Q i P rs h k
  obtain ⟨a, ns, rfl, h1, h2⟩ := ints_core i rs h
  cases ns with
  | nil => simp at h2
  | cons x r =>
    simp at h2
    subst h2
    refine ⟨a, x :: r, rfl, Or.inl (Or.inl h1), by simp, fun m hm hy => ?_⟩
    obtain ⟨g1, g2, g3⟩ := foldl_max_ge r x
    have e : m = maxI (x :: r) := by
      refine Int.le_antisymm ?_ (hy _ ?_)
      · rcases List.mem_cons.mp hm with e | e
        · rw [e]; exact g1
        · exact g2 m e
      · show r.foldl max x ∈ x :: r
        rcases g3 with e | e
        · rw [e]; simp
        · exact List.mem_cons_of_mem _ e
    subst e
    exact k.here i P (by simp only [Rep])
theorem rc_min : Rck K cl bi bo (rMin K) dMin := by
  intro pa H0 H π vs ds d Q i P rs h k
  obtain ⟨a, ns, rfl, h1, h2⟩ := ints_core i rs h
  cases ns with
  | nil => simp at h2
  | cons x r =>
    simp at h2
    subst h2
    refine ⟨a, x :: r, rfl, Or.inl (Or.inl h1), by simp, fun m hm hy => ?_⟩
    obtain ⟨g1, g2, g3⟩ := foldl_min_le r x
    have e : m = minI (x :: r) := by
      refine Int.le_antisymm (hy _ ?_) ?_
      · show r.foldl min x ∈ x :: r
        rcases g3 with e | e
        · rw [e]; simp
        · exact List.mem_cons_of_mem _ e
      · rcases List.mem_cons.mp hm with e | e
        · rw [e]; exact g1
        · exact g2 m e
    subst e
    exact k.here i P (by simp only [Rep])
def dAny : List D → Option D := dBls fun bs => some (.bl (bs.any id))
def dAll : List D → Option D := dBls fun bs => some (.bl (bs.all id))
theorem rc_any : Rck K cl bi bo (rAny K) dAny := by
  intro pa H0 H π vs ds d Q i P rs h k
  obtain ⟨a, ns, rfl, h1, h2⟩ := bls_core i rs h
  cases h2
  exact ⟨a, ns, rfl, Or.inl (Or.inl h1), k.here i P (by simp only [Rep])⟩
theorem rc_all : Rck K cl bi bo (rAll K) dAll := by
  intro pa H0 H π vs ds d Q i P rs h k
  obtain ⟨a, ns, rfl, h1, h2⟩ := bls_core i rs h
  cases h2
  exact ⟨a, ns, rfl, Or.inl (Or.inl h1), k.here i P (by simp only [Rep])⟩
/-- sorted(set(xs)) of ints -/
def oSortSet (me : Env → MM D) : Env → MM M := fun ρ => do
  let d ← me ρ
  match d with
  | .lst xs => match intsD xs with
    | some ns => if ns.length ≤ 4000 ∧ (sortSet ns).length < 64 then pure (.lst ((sortSet ns).map fun i => .leaf (.int i))) else fail
    | none => fail
  | _ => fail
theorem ro_sortSet (h : Rf K cl true te me) : Ro K cl (tSortedSet K te) (oSortSet me) := by
  intro pa ρ σ H0 H F π x π' Q S P hm k
  obtain ⟨d, π1, e1, hm⟩ := mm_bind_some hm
  refine h pa ρ σ H0 H F π d π1 _ S P e1 fun v H01 H1 s1 P1 r1 => ?_
  cases d with
  | lst xs =>
    simp only at hm
    cases q : intsD xs with
    | none => rw [q] at hm; cases hm
    | some ns =>
      rw [q] at hm
      simp only at hm
      by_cases c : ns.length ≤ 4000 ∧ (sortSet ns).length < 64
      · rw [if_pos c] at hm
        cases hm
        have e := intsD_eq q
        subst e
        simp only [Rep] at r1
        obtain ⟨a, ws, rfl, g1, g2⟩ := r1
        have := Reps.of_ints g2
        subst this
        refine ⟨a, ns, sortSet ns, rfl, s1.inn.trans ex_hid _ _ g1, c.1, fun k hk => mem_sortSet.mpr hk, c.2, fun out p h1 h2 hp => ?_⟩
        have eo : out = sortSet ns := pw_unique h1 pw_sortSet fun k => by rw [h2 k, mem_sortSet]
        subst eo
        obtain ⟨s2, P2⟩ := allocO (o := .lst ((sortSet ns).map V.int)) s1.inn P1 hp
        refine k (.ref p) _ _ [p] (s1.trans (fun _ => P1.pa) s2) P2 ?_ (by simp) (by simpa using none_back (G := ⟨K, cl, pa⟩) s1 P1 hp)
        simp only [RepM]
        refine ⟨p, _, [], rfl, rfl, free0 s1.inn hp, ne_pa P1 hp, upd_same, ?_⟩
        have := leafs (G := ⟨K, cl, pa⟩) (H0 := H01) (H := upd H1 p (.lst ((sortSet ns).map V.int))) (Reps.ints (sortSet ns))
        rw [List.map_map] at this
        exact this
      · rw [if_neg c] at hm; cases hm
  | _ => cases hm
/-- list(x) of a list, a tuple -/
def oList (mg : Env → MM (List D)) : Env → MM M := fun ρ => do
  let ds ← mg ρ
  match ds with
  | [.lst xs] => pure (.lst (xs.map .leaf))
  | [.tup xs] => pure (.lst (xs.map .leaf))
  | _ => fail
theorem ro_list (h : Ra K cl true tg mg) : Ro K cl (tCB (fun xs H Q => ∃ p ys, xs = [.ref p] ∧ (SqL K H p ys ∨ SqT K H p ys) ∧ ∀ l, H l = none → Q (.ref l) (upd H l (.lst ys))) tg) (oList mg) := by
  intro pa ρ σ H0 H F π x π' Q S P hm k
  obtain ⟨ds, π1, e1, hm⟩ := mm_bind_some hm
  refine h pa ρ σ H0 H F π ds π1 _ S P e1 fun vs H01 H1 s1 P1 r1 => ?_
  have fin : ∀ {p : Addr} {xs : List D} {ws : List V}, Reps ⟨K, cl, pa⟩ H01 xs ws → H1 p = none → x = .lst (xs.map .leaf) → π1 = π' → Q (.ref p) (upd H1 p (.lst ws)) := fun {p xs ws} r hp ex ep => by
    subst ex ep
    obtain ⟨s2, P2⟩ := allocO (o := .lst ws) s1.inn P1 hp
    refine k (.ref p) _ _ [p] (s1.trans (fun _ => P1.pa) s2) P2 ?_ (by simp) (by simpa using none_back (G := ⟨K, cl, pa⟩) s1 P1 hp)
    simp only [RepM]
    exact ⟨p, _, [], rfl, rfl, free0 s1.inn hp, ne_pa P1 hp, upd_same, leafs r⟩
  match ds, hm, r1 with
  | [.lst xs], hm, r1 =>
    cases hm
    obtain ⟨v, rfl, r⟩ := one_rep r1
    simp only [Rep, pick, if_true] at r
    obtain ⟨a, ws, rfl, g1, g2⟩ := r
    exact ⟨a, ws, rfl, Or.inl (Or.inl (Or.inl (s1.inn.trans ex_hid _ _ g1))), fun l hl => fin g2 hl rfl rfl⟩
  | [.tup xs], hm, r1 =>
    cases hm
    obtain ⟨v, rfl, r⟩ := one_rep r1
    simp only [Rep, pick, if_true] at r
    obtain ⟨a, ws, rfl, g1, g2⟩ := r
    exact ⟨a, ws, rfl, Or.inr (Or.inl (Or.inl (s1.inn.trans ex_hid _ _ g1))), fun l hl => fin g2 hl rfl rfl⟩
/-- tuple(x) -/
def eTuple (me : Env → MM D) : Env → MM D := fun ρ => do
  let d ← me ρ
  match d with
  | .lst xs => pure (.tup xs)
  | .tup xs => pure (.tup xs)
  | _ => fail
theorem rf_tuple (h : Rf K cl true te me) : Rf K cl b (tThen te (kTup K)) (eTuple me) := by
  intro pa ρ σ H0 H F π d π' Q S P hm k
  obtain ⟨x, π1, e1, hm⟩ := mm_bind_some hm
  refine h pa ρ σ H0 H F π x π1 _ S P e1 fun v H01 H1 s1 P1 r1 => ?_
  cases x with
  | lst xs =>
    cases hm
    simp only [Rep, pick, if_true] at r1
    obtain ⟨a, ws, rfl, g1, g2⟩ := r1
    refine Or.inl ⟨a, ws, rfl, Or.inl (Or.inl (s1.inn.trans ex_hid _ _ g1)), fun p hp => ?_⟩
    obtain ⟨s2, P2, g4⟩ := alloc (o := .tup ws) s1.inn P1 hp
    refine k (.ref p) _ _ (s1.trans (fun _ => P1.pa) s2) P2 ?_
    simp only [Rep]
    exact ⟨p, _, rfl, g4 b, Reps.mono ((pick_of0 s1.inn).trans (pick_mono s2)) g2⟩
  | tup xs =>
    cases hm
    have r1' := r1
    simp only [Rep, pick, if_true] at r1
    obtain ⟨a, ws, rfl, g1, g2⟩ := r1
    exact Or.inr ⟨a, ws, rfl, Or.inl (Or.inl (s1.inn.trans ex_hid _ _ g1)), (k.pre P1 s1).here s1.inn P1 (Rep.mono (pick_of0 s1.inn) r1')⟩
  | _ => cases hm
end
end DL
set_option Elab.async false
set_option linter.all false
set_option maxRecDepth 100000
set_option maxHeartbeats 4000000
namespace DL
open PySem L2

/-! ### ways into owned things -/
def M.kid : M → Nat → Option M
  | .lst ms, j => ms[j]?
  | .dK _ ms, j => ms[j]?
  | .dT _ ms, j => ms[j]?
  | _, _ => none
def M.setKid : M → Nat → M → M
  | .lst ms, j, m => .lst (ms.set j m)
  | .dK ks ms, j, m => .dK ks (ms.set j m)
  | .dT ks ms, j, m => .dT ks (ms.set j m)
  | m, _, _ => m
def M.at : M → List Nat → Option M
  | m, [] => some m
  | m, j :: r => match m.kid j with
    | some k => k.at r
    | none => none
def M.put : M → List Nat → M → M
  | _, [], x => x
  | m, j :: r, x => match m.kid j with
    | some k => m.setKid j (k.put r x)
    | none => m
/-- the value that stands at the way's end -/
def Sub (H : Hp) : M → V → List Nat → V → Prop
  | _, x, [], v => v = x
  | m, x, j :: r, v => ∃ p vs k w, x = .ref p ∧ ((∃ ms, m = .lst ms ∧ H p = some (.lst vs)) ∨ (∃ ks ms, m = .dK ks ms ∧ ks.length = vs.length ∧ H p = some (.dK (ks.zip vs))) ∨ (∃ ks ms, m = .dT ks ms ∧ ks.length = vs.length ∧ H p = some (.dT (ks.zip vs)))) ∧
    m.kid j = some k ∧ vs[j]? = some w ∧ Sub H k w r v
theorem zip_inj {κ : Type} : ∀ {ks : List κ} {vs ws : List V}, ks.length = vs.length → ks.length = ws.length → ks.zip vs = ks.zip ws → vs = ws
  | [], [], [], _, _, _ => rfl
  | [], _ :: _, _, h, _, _ => by simp at h
  | [], [], _ :: _, _, h, _ => by simp at h
  | _ :: _, [], _, h, _, _ => by simp at h
  | _ :: _, _ :: _, [], _, h, _ => by simp at h
  | k :: ks, v :: vs, w :: ws, h1, h2, h => by
    simp only [List.zip_cons_cons, List.cons.injEq, Prod.mk.injEq, true_and] at h
    rw [h.1, zip_inj (by simpa using h1) (by simpa using h2) h.2]
theorem Sub.unique {H : Hp} : ∀ {path : List Nat} {m : M} {x v v' : V}, Sub H m x path v → Sub H m x path v' → v = v'
  | [], _, _, _, _, h, h' => by rw [show _ = _ from h, show _ = _ from h']
  | j :: r, m, x, v, v', h, h' => by
    obtain ⟨p, vs, k, w, e1, e2, e3, e4, e5⟩ := h
    obtain ⟨p', vs', k', w', f1, f2, f3, f4, f5⟩ := h'
    have hp : p = p' := by rw [e1] at f1; exact V.ref.inj f1
    subst hp
    have hk : k = k' := by rw [e3] at f3; exact Option.some.inj f3
    subst hk
    have hv : vs = vs' := by
      rcases e2 with ⟨ms, em, e2⟩ | ⟨ks, ms, em, el, e2⟩ | ⟨ks, ms, em, el, e2⟩
      · rcases f2 with ⟨ms', fm, f2⟩ | ⟨ks', ms', fm, fl, f2⟩ | ⟨ks', ms', fm, fl, f2⟩
        · rw [e2] at f2; exact HO.lst.inj (Option.some.inj f2)
        · rw [e2] at f2; cases f2
        · rw [e2] at f2; cases f2
      · rcases f2 with ⟨ms', fm, f2⟩ | ⟨ks', ms', fm, fl, f2⟩ | ⟨ks', ms', fm, fl, f2⟩
        · rw [e2] at f2; cases f2
        · rw [em] at fm; cases fm
          rw [e2] at f2; exact zip_inj el fl (HO.dK.inj (Option.some.inj f2))
        · rw [e2] at f2; cases f2
      · rcases f2 with ⟨ms', fm, f2⟩ | ⟨ks', ms', fm, fl, f2⟩ | ⟨ks', ms', fm, fl, f2⟩
        · rw [e2] at f2; cases f2
        · rw [e2] at f2; cases f2
        · rw [em] at fm; cases fm
          rw [e2] at f2; exact zip_inj el fl (HO.dT.inj (Option.some.inj f2))
    subst hv
    have hw : w = w' := by rw [e4] at f4; exact Option.some.inj f4
    subst hw
    exact Sub.unique e5 f5
theorem Sub.keep {G : Gm} {H0 H H' : Hp} (kp : ∀ b o, b ≠ G.pa → H b = some o → H' b = some o) : ∀ {path : List Nat} {m : M} {x v : V} {F : List Addr}, RepM G H0 H m x F → Sub H m x path v → Sub H' m x path v
  | [], _, _, _, _, _, h => h
  | j :: r, m, x, v, F, R, h => by
    obtain ⟨p, vs, k, w, e1, e2, e3, e4, e5⟩ := h
    have hp : p ≠ G.pa ∧ ∃ F', RepM G H0 H k w F' := by
      cases m with
      | lst ms =>
        simp only [RepM] at R
        obtain ⟨q, ws, F', g1, g2, g3, g4, g5, g6⟩ := R
        rw [e1] at g1; cases g1
        refine ⟨g4, ?_⟩
        have hv : vs = ws := by
          rcases e2 with ⟨ms', em, e2⟩ | ⟨ks', ms', em, el, e2⟩ | ⟨ks', ms', em, el, e2⟩
          · rw [g5] at e2; exact (HO.lst.inj (Option.some.inj e2)).symm
          · cases em
          · cases em
        subst hv
        exact kidR g6 e3 e4
      | dK ks ms =>
        simp only [RepM] at R
        obtain ⟨q, ws, F', g1, g2, g3, g4, g5, g6, g7⟩ := R
        rw [e1] at g1; cases g1
        refine ⟨g4, ?_⟩
        have hv : vs = ws := by
          rcases e2 with ⟨ms', em, e2⟩ | ⟨ks', ms', em, el, e2⟩ | ⟨ks', ms', em, el, e2⟩
          · cases em
          · cases em
            rw [g5] at e2; exact zip_inj el g6 (HO.dK.inj (Option.some.inj e2.symm))
          · cases em
        subst hv
        exact kidR g7 e3 e4
      | dT ks ms =>
        simp only [RepM] at R
        obtain ⟨q, ws, F', g1, g2, g3, g4, g5, g6, g7⟩ := R
        rw [e1] at g1; cases g1
        refine ⟨g4, ?_⟩
        have hv : vs = ws := by
          rcases e2 with ⟨ms', em, e2⟩ | ⟨ks', ms', em, el, e2⟩ | ⟨ks', ms', em, el, e2⟩
          · cases em
          · cases em
          · cases em
            rw [g5] at e2; exact zip_inj el g6 (HO.dT.inj (Option.some.inj e2.symm))
        subst hv
        exact kidR g7 e3 e4
      | leaf d => cases e3
      | ins c fs ms => cases e3
    obtain ⟨np, F', R'⟩ := hp
    refine ⟨p, vs, k, w, e1, ?_, e3, e4, Sub.keep kp R' e5⟩
    rcases e2 with ⟨ms, em, e2⟩ | ⟨ks, ms, em, el, e2⟩ | ⟨ks, ms, em, el, e2⟩
    · exact Or.inl ⟨ms, em, kp _ _ np e2⟩
    · exact Or.inr (Or.inl ⟨ks, ms, em, el, kp _ _ np e2⟩)
    · exact Or.inr (Or.inr ⟨ks, ms, em, el, kp _ _ np e2⟩)
where
  kidR {G : Gm} {H0 H : Hp} : ∀ {ms : List M} {vs : List V} {F : List Addr} {j : Nat} {k : M} {w : V}, RepMs G H0 H ms vs F → ms[j]? = some k → vs[j]? = some w → ∃ F', RepM G H0 H k w F'
  | [], _, _, _, _, _, _, e, _ => by simp at e
  | m :: ms, vs, F, j, k, w, h, e, e' => by
    simp only [RepMs] at h
    obtain ⟨v, r, F1, F2, h1, h2, h3, h4⟩ := h
    subst h1
    cases j with
    | zero =>
      simp at e e'
      subst e e'
      exact ⟨F1, h3⟩
    | succ j => exact kidR (j := j) h4 (by simpa using e) (by simpa using e')
/-- one of a row, its footprint apart, put anew -/
theorem RepMs.split {G : Gm} {H0 H : Hp} : ∀ {ms : List M} {vs : List V} {F : List Addr} {j : Nat} {m : M}, RepMs G H0 H ms vs F → ms[j]? = some m → ∃ w Fa Fb Fc, vs[j]? = some w ∧ F = Fa ++ (Fb ++ Fc) ∧ RepM G H0 H m w Fb ∧
    ∀ H0' H' m2 w2 F2, Ex H0 H0' → (∀ b ∈ Fa ++ Fc, ∀ o, H b = some o → H' b = some o) → (∀ b ∈ Fa ++ Fc, H0' b = none) → RepM G H0' H' m2 w2 F2 → RepMs G H0' H' (ms.set j m2) (vs.set j w2) (Fa ++ (F2 ++ Fc))
  | [], _, _, _, _, _, e => by simp at e
  | m0 :: ms, vs, F, j, m, h, e => by
    simp only [RepMs] at h
    obtain ⟨v, r, F1, F2, h1, h2, h3, h4⟩ := h
    subst h1 h2
    cases j with
    | zero =>
      simp at e
      subst e
      refine ⟨v, [], F1, F2, rfl, rfl, h3, fun H0' H' m2 w2 F3 e0 k n r2 => ?_⟩
      simp only [List.nil_append] at k n ⊢
      simp only [List.set_cons_zero, RepMs]
      exact ⟨w2, r, F3, F2, rfl, rfl, r2, h4.keep e0 (fun b hb o _ q => k b hb o q) (fun b hb _ _ => n b hb)⟩
    | succ j =>
      obtain ⟨w, Fa, Fb, Fc, g1, g2, g3, g4⟩ := RepMs.split (j := j) h4 (by simpa using e)
      subst g2
      refine ⟨w, F1 ++ Fa, Fb, Fc, by simpa using g1, by simp [List.append_assoc], g3, fun H0' H' m2 w2 F3 e0 k n r2 => ?_⟩
      simp only [List.set_cons_succ, RepMs]
      refine ⟨v, r.set j w2, F1, Fa ++ (F3 ++ Fc), rfl, by simp [List.append_assoc], h3.keep e0 (fun b hb o _ q => k b (by simp [hb]) o q) (fun b hb _ _ => n b (by simp [hb])), g4 H0' H' m2 w2 F3 e0 (fun b hb o q => k b ?_ o q) (fun b hb => n b ?_) r2⟩
      · simp only [List.mem_append] at hb ⊢
        rcases hb with z | z
        · exact Or.inl (Or.inr z)
        · exact Or.inr z
      · simp only [List.mem_append] at hb ⊢
        rcases hb with z | z
        · exact Or.inl (Or.inr z)
        · exact Or.inr z
theorem set_same {α : Type} : ∀ {l : List α} {j : Nat} {x : α}, l[j]? = some x → l.set j x = l
  | [], _, _, h => by simp at h
  | a :: l, 0, x, h => by simp at h; subst h; rfl
  | a :: l, j + 1, x, h => by
    simp only [List.set_cons_succ]
    rw [set_same (by simpa using h)]
theorem RepM.sub {G : Gm} {H0 H : Hp} : ∀ (path : List Nat) {m : M} {x : V} {F : List Addr} {m' : M}, RepM G H0 H m x F → m.at path = some m' → ∃ v Fa Fb Fc, Sub H m x path v ∧ F = Fa ++ (Fb ++ Fc) ∧ RepM G H0 H m' v Fb ∧
    ∀ H0' H' m2 F2, Ex H0 H0' → (∀ b ∈ Fa ++ Fc, ∀ o, H b = some o → H' b = some o) → (∀ b ∈ Fa ++ Fc, H0' b = none) → RepM G H0' H' m2 v F2 → RepM G H0' H' (m.put path m2) x (Fa ++ (F2 ++ Fc))
  | [], m, x, F, m', R, e => by
    simp only [M.at] at e
    cases e
    exact ⟨x, [], F, [], rfl, by simp, R, fun H0' H' m2 F2 _ _ _ r => by simpa [M.put] using r⟩
  | j :: r, m, x, F, m', R, e => by
    simp only [M.at] at e
    cases hk : m.kid j with
    | none => rw [hk] at e; cases e
    | some k =>
      rw [hk] at e
      simp only at e
      cases m with
      | lst ms =>
        simp only [RepM] at R
        obtain ⟨p, vs, F', g1, g2, g3, g4, g5, g6⟩ := R
        subst g2
        obtain ⟨w, Fa, Fb, Fc, a1, a2, a3, a4⟩ := g6.split hk
        subst a2
        obtain ⟨v, Fd, Fe, Ff, c1, c2, c3, c4⟩ := RepM.sub r a3 e
        subst c2
        refine ⟨v, p :: (Fa ++ Fd), Fe, Ff ++ Fc, ⟨p, vs, k, w, g1, Or.inl ⟨ms, rfl, g5⟩, hk, a1, c1⟩, by simp [List.append_assoc], c3, fun H0' H' m2 F2 e0 kp no r2 => ?_⟩
        simp only [M.put, hk, M.setKid, RepM]
        refine ⟨p, vs, Fa ++ ((Fd ++ (F2 ++ Ff)) ++ Fc), g1, by simp [List.append_assoc], no p (by simp), g4, kp p (by simp) _ g5, ?_⟩
        have := a4 H0' H' (k.put r m2) w (Fd ++ (F2 ++ Ff)) e0 (fun b hb o q => kp b (by simp only [List.mem_append, List.mem_cons] at hb ⊢; rcases hb with z | z <;> simp [z]) o q) (fun b hb => no b (by simp only [List.mem_append, List.mem_cons] at hb ⊢; rcases hb with z | z <;> simp [z]))
          (c4 H0' H' m2 F2 e0 (fun b hb o q => kp b (by simp only [List.mem_append, List.mem_cons] at hb ⊢; rcases hb with z | z <;> simp [z]) o q) (fun b hb => no b (by simp only [List.mem_append, List.mem_cons] at hb ⊢; rcases hb with z | z <;> simp [z])) r2)
        rw [set_same a1] at this
        exact this
      | dK ks ms =>
        simp only [RepM] at R
        obtain ⟨p, vs, F', g1, g2, g3, g4, g5, gl, g6⟩ := R
        subst g2
        obtain ⟨w, Fa, Fb, Fc, a1, a2, a3, a4⟩ := g6.split hk
        subst a2
        obtain ⟨v, Fd, Fe, Ff, c1, c2, c3, c4⟩ := RepM.sub r a3 e
        subst c2
        refine ⟨v, p :: (Fa ++ Fd), Fe, Ff ++ Fc, ⟨p, vs, k, w, g1, Or.inr (Or.inl ⟨ks, ms, rfl, gl, g5⟩), hk, a1, c1⟩, by simp [List.append_assoc], c3, fun H0' H' m2 F2 e0 kp no r2 => ?_⟩
        simp only [M.put, hk, M.setKid, RepM]
        refine ⟨p, vs, Fa ++ ((Fd ++ (F2 ++ Ff)) ++ Fc), g1, by simp [List.append_assoc], no p (by simp), g4, kp p (by simp) _ g5, gl, ?_⟩
        have := a4 H0' H' (k.put r m2) w (Fd ++ (F2 ++ Ff)) e0 (fun b hb o q => kp b (by simp only [List.mem_append, List.mem_cons] at hb ⊢; rcases hb with z | z <;> simp [z]) o q) (fun b hb => no b (by simp only [List.mem_append, List.mem_cons] at hb ⊢; rcases hb with z | z <;> simp [z]))
          (c4 H0' H' m2 F2 e0 (fun b hb o q => kp b (by simp only [List.mem_append, List.mem_cons] at hb ⊢; rcases hb with z | z <;> simp [z]) o q) (fun b hb => no b (by simp only [List.mem_append, List.mem_cons] at hb ⊢; rcases hb with z | z <;> simp [z])) r2)
        rw [set_same a1] at this
        exact this
      | dT ks ms =>
        simp only [RepM] at R
        obtain ⟨p, vs, F', g1, g2, g3, g4, g5, gl, g6⟩ := R
        subst g2
        obtain ⟨w, Fa, Fb, Fc, a1, a2, a3, a4⟩ := g6.split hk
        subst a2
        obtain ⟨v, Fd, Fe, Ff, c1, c2, c3, c4⟩ := RepM.sub r a3 e
        subst c2
        refine ⟨v, p :: (Fa ++ Fd), Fe, Ff ++ Fc, ⟨p, vs, k, w, g1, Or.inr (Or.inr ⟨ks, ms, rfl, gl, g5⟩), hk, a1, c1⟩, by simp [List.append_assoc], c3, fun H0' H' m2 F2 e0 kp no r2 => ?_⟩
        simp only [M.put, hk, M.setKid, RepM]
        refine ⟨p, vs, Fa ++ ((Fd ++ (F2 ++ Ff)) ++ Fc), g1, by simp [List.append_assoc], no p (by simp), g4, kp p (by simp) _ g5, gl, ?_⟩
        have := a4 H0' H' (k.put r m2) w (Fd ++ (F2 ++ Ff)) e0 (fun b hb o q => kp b (by simp only [List.mem_append, List.mem_cons] at hb ⊢; rcases hb with z | z <;> simp [z]) o q) (fun b hb => no b (by simp only [List.mem_append, List.mem_cons] at hb ⊢; rcases hb with z | z <;> simp [z]))
          (c4 H0' H' m2 F2 e0 (fun b hb o q => kp b (by simp only [List.mem_append, List.mem_cons] at hb ⊢; rcases hb with z | z <;> simp [z]) o q) (fun b hb => no b (by simp only [List.mem_append, List.mem_cons] at hb ⊢; rcases hb with z | z <;> simp [z])) r2)
        rw [set_same a1] at this
        exact this
      | leaf d => cases hk
      | ins c fs ms => cases hk
/-- one slot apart -/
theorem EnvOk.split {G : Gm} {H0 H : Hp} : ∀ {ρ : Env} {σ : L2.St} {F : List Addr} {i : Nat} {s : Sl}, EnvOk G H0 H ρ σ F → ρ[i]? = some s → ∃ x Fa Fb Fc, σ[i]? = some x ∧ F = Fa ++ (Fb ++ Fc) ∧ SlOk G H0 H x Fb s ∧
    ∀ H0' H' s2 F2, Ex H0 H0' → (∀ b ∈ Fa ++ Fc, ∀ o, H b = some o → H' b = some o) → (∀ b ∈ Fa ++ Fc, H0' b = none) → SlOk G H0' H' x F2 s2 → EnvOk G H0' H' (ρ.set i s2) σ (Fa ++ (F2 ++ Fc))
  | [], _, _, _, _, _, e => by simp at e
  | s0 :: ρ, _, _, i, s, h, e => by
    obtain ⟨x, σ', F1, F2, h1, h2, h3, h4⟩ := h
    subst h1 h2
    cases i with
    | zero =>
      simp at e
      subst e
      refine ⟨x, [], F1, F2, rfl, rfl, h3, fun H0' H' s2 F3 e0 k n r2 => ?_⟩
      simp only [List.nil_append] at k n ⊢
      exact ⟨x, σ', F3, F2, rfl, rfl, r2, h4.keep e0 (fun b hb o _ q => k b hb o q) (fun b hb _ _ => n b hb)⟩
    | succ i =>
      obtain ⟨y, Fa, Fb, Fc, g1, g2, g3, g4⟩ := EnvOk.split (i := i) h4 (by simpa using e)
      subst g2
      refine ⟨y, F1 ++ Fa, Fb, Fc, by simpa using g1, by simp [List.append_assoc], g3, fun H0' H' s2 F3 e0 k n r2 => ?_⟩
      refine ⟨x, σ', F1, Fa ++ (F3 ++ Fc), rfl, by simp [List.append_assoc], h3.keep e0 (fun b hb o _ q => k b (by simp [hb]) o q) (fun b hb _ _ => n b (by simp [hb])), g4 H0' H' s2 F3 e0 (fun b hb o q => k b ?_ o q) (fun b hb => n b ?_) r2⟩
      · simp only [List.mem_append] at hb ⊢
        rcases hb with z | z
        · exact Or.inl (Or.inr z)
        · exact Or.inr z
      · simp only [List.mem_append] at hb ⊢
        rcases hb with z | z
        · exact Or.inl (Or.inr z)
        · exact Or.inr z
/-- an owned thing, at the end of a way from a slot, is changed -/
theorem SA.mut {G : Gm} {ρ : Env} {σ : L2.St} {H0 H : Hp} {F : List Addr} {π : Pen} {i : Nat} {m m' : M} {path : List Nat} (S : SA G ρ σ H0 H F) (P : PenAt G π H0 H) (hi : ρ[i]? = some (.ow m)) (hm : m.at path = some m') :
    ∃ x v Fb, σ[i]? = some (some x) ∧ Sub H m x path v ∧ (∃ Fm, RepM G H0 H m x Fm) ∧ RepM G H0 H m' v Fb ∧ Fb.Nodup ∧ (∀ b ∈ Fb, b ∈ F) ∧ ∀ p o m2 F2, p ∈ Fb → RepM G H0 (upd H p o) m2 v F2 → F2.Nodup → (∀ b ∈ F2, b ∈ Fb ∨ b ∉ F) →
      ∃ F', SA G (ρ.set i (.ow (m.put path m2))) σ H0 (upd H p o) F' ∧ PenAt G π H0 (upd H p o) ∧ ∀ b ∈ F', b ∈ F ∨ b ∈ F2 := by
  obtain ⟨x0, Fa, Fb, Fc, h1, h2, h3, h4⟩ := S.env.split hi
  obtain ⟨x, e, R⟩ := h3
  subst e
  obtain ⟨v, Fd, Fe, Ff, c1, c2, c3, c4⟩ := RepM.sub path R hm
  have nd := S.nd
  rw [h2, c2] at nd
  have nd1 := List.nodup_append.mp nd
  have nd2 := List.nodup_append.mp nd1.2.1
  have nd3 := List.nodup_append.mp nd2.1
  have nd4 := List.nodup_append.mp nd3.2.1
  refine ⟨x, v, Fe, h1, c1, ⟨Fb, R⟩, c3, nd4.1, fun b hb => by rw [h2, c2]; simp [hb], fun p o m2 F2 hp r2 nF hF => ?_⟩
  have hFr : ∀ b ∈ F, H0 b = none ∧ b ≠ G.pa ∧ H b ≠ none := S.env.free
  have pF : p ∈ F := by rw [h2, c2]; simp [hp]
  have p0 := (hFr p pF).1
  have pp := (hFr p pF).2.1
  have ne1 : ∀ b ∈ Fa ++ Fc, b ≠ p := fun b hb e => by
    subst e
    rcases List.mem_append.mp hb with z | z
    · exact nd1.2.2 b z b (by simp [hp]) rfl
    · exact nd2.2.2 b (by simp [hp]) b z rfl
  have ne2 : ∀ b ∈ Fd ++ Ff, b ≠ p := fun b hb e => by
    subst e
    rcases List.mem_append.mp hb with z | z
    · exact nd3.2.2 b z b (by simp [hp]) rfl
    · exact nd4.2.2 b hp b z rfl
  have inF1 : ∀ b ∈ Fa ++ Fc, b ∈ F := fun b hb => by
    rw [h2]
    rcases List.mem_append.mp hb with z | z <;> simp [z]
  have inF2 : ∀ b ∈ Fd ++ Ff, b ∈ F := fun b hb => by
    rw [h2, c2]
    rcases List.mem_append.mp hb with z | z <;> simp [z]
  have r3 := c4 H0 (upd H p o) m2 F2 (Ex.refl _) (fun b hb u q => by rw [upd_ne (ne2 b hb)]; exact q) (fun b hb => (hFr b (inF2 b hb)).1) r2
  have e5 := h4 H0 (upd H p o) (.ow (m.put path m2)) _ (Ex.refl _) (fun b hb u q => by rw [upd_ne (ne1 b hb)]; exact q) (fun b hb => (hFr b (inF1 b hb)).1) ⟨x, rfl, r3⟩
  refine ⟨_, ⟨fun b u hb => ?_, e5, ?_⟩, P.grow (Ex.refl _) (upd_ne (Ne.symm pp)), fun b hb => ?_⟩
  · obtain ⟨nb, hb'⟩ := hid_some (S.i0 b u hb)
    rw [hid_ne nb, upd_ne (fun e => by rw [e, p0] at hb; cases hb)]; exact hb'
  · -- no address twice
    have a1 : ∀ b ∈ F2, b ∉ Fa := fun b h hb => by
      rcases hF b h with z | z
      · exact nd1.2.2 b hb b (by simp [z]) rfl
      · exact z (inF1 b (by simp [hb]))
    have a2 : ∀ b ∈ F2, b ∉ Fc := fun b h hb => by
      rcases hF b h with z | z
      · exact nd2.2.2 b (by simp [z]) b hb rfl
      · exact z (inF1 b (by simp [hb]))
    have a3 : ∀ b ∈ F2, b ∉ Fd := fun b h hb => by
      rcases hF b h with z | z
      · exact nd3.2.2 b hb b (by simp [z]) rfl
      · exact z (inF2 b (by simp [hb]))
    have a4 : ∀ b ∈ F2, b ∉ Ff := fun b h hb => by
      rcases hF b h with z | z
      · exact nd4.2.2 b z b hb rfl
      · exact z (inF2 b (by simp [hb]))
    rw [List.nodup_append]
    refine ⟨nd1.1, ?_, fun a ha c hc e => ?_⟩
    · rw [List.nodup_append]
      refine ⟨?_, nd2.2.1, fun a ha c hc e => ?_⟩
      · rw [List.nodup_append]
        refine ⟨nd3.1, ?_, fun a ha c hc e => ?_⟩
        · rw [List.nodup_append]
          exact ⟨nF, nd4.2.1, fun a ha c hc e => a4 a ha (by rw [e]; exact hc)⟩
        · subst e
          rcases List.mem_append.mp hc with z | z
          · exact a3 a z ha
          · exact nd3.2.2 a ha a (by simp [z]) rfl
      · subst e
        rcases List.mem_append.mp ha with z | z
        · exact nd2.2.2 a (by simp [z]) a hc rfl
        · rcases List.mem_append.mp z with z | z
          · exact a2 a z hc
          · exact nd2.2.2 a (by simp [z]) a hc rfl
    · subst e
      rcases List.mem_append.mp hc with z | z
      · rcases List.mem_append.mp z with z | z
        · exact nd1.2.2 a ha a (by simp [z]) rfl
        · rcases List.mem_append.mp z with z | z
          · exact a1 a z ha
          · exact nd1.2.2 a ha a (by simp [z]) rfl
      · exact nd1.2.2 a ha a (by simp [z]) rfl
  · simp only [List.mem_append] at hb
    rcases hb with z | (z | z | z) | z
    · exact Or.inl (inF1 b (by simp [z]))
    · exact Or.inl (inF2 b (by simp [z]))
    · exact Or.inr z
    · exact Or.inl (inF2 b (by simp [z]))
    · exact Or.inl (inF1 b (by simp [z]))
end DL
set_option Elab.async false
set_option linter.all false
set_option maxRecDepth 100000
set_option maxHeartbeats 4000000
namespace DL
open PySem L2

theorem M.at_snoc : ∀ (path : List Nat) {m m' k : M} {j : Nat}, m.at path = some m' → m'.kid j = some k → m.at (path ++ [j]) = some k
  | [], m, m', k, j, h, h2 => by
    simp only [M.at] at h; cases h
    simp only [List.nil_append, M.at, h2]
  | a :: r, m, m', k, j, h, h2 => by
    simp only [M.at] at h
    cases q : m.kid a with
    | none => rw [q] at h; cases h
    | some k0 =>
      rw [q] at h
      simp only [List.cons_append, M.at, q]
      exact M.at_snoc r h h2
theorem Sub.snoc {H : Hp} : ∀ (path : List Nat) {m m' k : M} {j : Nat} {x v w : V} {p : Addr} {vs : List V}, Sub H m x path v → m.at path = some m' → v = .ref p →
    ((∃ ms, m' = .lst ms ∧ H p = some (.lst vs)) ∨ (∃ ks ms, m' = .dK ks ms ∧ ks.length = vs.length ∧ H p = some (.dK (ks.zip vs))) ∨ (∃ ks ms, m' = .dT ks ms ∧ ks.length = vs.length ∧ H p = some (.dT (ks.zip vs)))) →
    m'.kid j = some k → vs[j]? = some w → Sub H m x (path ++ [j]) w
  | [], m, m', k, j, x, v, w, p, vs, h, e, ev, ho, hk, hw => by
    simp only [M.at] at e; cases e
    have hv : v = x := h
    subst hv
    exact ⟨p, vs, k, w, ev, ho, hk, hw, rfl⟩
  | a :: r, m, m', k, j, x, v, w, p, vs, h, e, ev, ho, hk, hw => by
    obtain ⟨p0, vs0, k0, w0, e1, e2, e3, e4, e5⟩ := h
    simp only [M.at, e3] at e
    exact ⟨p0, vs0, k0, w0, e1, e2, e3, e4, Sub.snoc r e5 e ev ho hk hw⟩
def ownAt (i : Nat) (ρ : Env) : Option M := match ρ[i]? with
  | some (.ow m) => some m
  | _ => none
theorem ownAt_some {i : Nat} {ρ : Env} {m : M} (h : ownAt i ρ = some m) : ρ[i]? = some (.ow m) := by
  unfold ownAt at h
  cases e : ρ[i]? with
  | none => rw [e] at h; cases h
  | some s =>
    rw [e] at h
    cases s with
    | ow m' => cases h; rfl
    | un => cases h
    | sh d => cases h
def Rl (K : PySem.W.Frag) (cl : Nat → Addr) (to : TE) (i : Nat) (loc : Env → MM (List Nat)) : Prop := ∀ (pa : PA) (ρ : Env) (σ : L2.St) (H0 H : Hp) (F : List Addr) (π : Pen) (path : List Nat) (π' : Pen) (m m' : M) (Q : VK),
  SA ⟨K, cl, pa⟩ ρ σ H0 H F → PenAt ⟨K, cl, pa⟩ π H0 H → loc ρ π = some (path, π') → ownAt i ρ = some m → m.at path = some m' →
  (∀ v x H0' H', Pure ⟨K, cl, pa⟩ H0 H H0' H' → PenAt ⟨K, cl, pa⟩ π' H0' H' → σ[i]? = some (some x) → Sub H' m x path v → Q v H') → to σ H Q
section
variable {K : PySem.W.Frag} {cl : Nat → Addr}
variable {b bi bo : Bool} {ta tb tc te to : TE} {ma mb mc me : Env → MM D} {t u : TT} {mt mu : Env → MM Bool} {tg : TA} {mg : Env → MM (List D)} {t1 t2 : TS} {m1 m2 : Env → MM Out} {loc : Env → MM (List Nat)} {i : Nat}
def lHere : Env → MM (List Nat) := fun _ => pure []
theorem rl_var : Rl K cl (tVar i) i lHere := by
  intro pa ρ σ H0 H F π path π' m m' Q S P h ho hm k
  cases h
  obtain ⟨x, F1, h1, ⟨v, h2, h3⟩, _⟩ := S.env.get (ownAt_some ho)
  subst h2
  exact ⟨v, h1, k v v H0 H (Pure.refl S.i0) P h1 rfl⟩
/-- the place of an index, of a key -/
def idx {κ : Type} [DecidableEq κ] : List κ → κ → Option Nat
  | [], _ => none
  | k :: ks, x => if k = x then some 0 else (idx ks x).map (· + 1)
theorem idx_val {κ : Type} [DecidableEq κ] {x : κ} : ∀ {ks : List κ} {vs : List V} {j : Nat}, ks.length = vs.length → idx ks x = some j → ∃ w, vs[j]? = some w ∧ valV (ks.zip vs) x = some w
  | [], _, _, _, h => by simp [idx] at h
  | k :: ks, [], _, h, _ => by simp at h
  | k :: ks, v :: vs, j, hl, h => by
    simp only [idx] at h
    by_cases e : k = x
    · rw [if_pos e] at h; cases h
      exact ⟨v, rfl, by rw [List.zip_cons_cons]; exact valV_pos e⟩
    · rw [if_neg e] at h
      cases q : idx ks x with
      | none => rw [q] at h; cases h
      | some n =>
        rw [q] at h; cases h
        obtain ⟨w, h1, h2⟩ := idx_val (by simpa using hl) q
        exact ⟨w, by simpa using h1, by rw [List.zip_cons_cons, valV_neg (p := (k, v)) e]; exact h2⟩
def stepIx (m : M) (d : D) : Option Nat := match m with
  | .lst ms => match d with
    | .int n => ixN ms.length n
    | _ => none
  | .dK ks _ => match keyD d with
    | some k => idx ks k
    | none => none
  | .dT ks _ => match d with
    | .tup es => match keysD es with
      | some k => idx ks k
      | none => none
    | _ => none
  | _ => none
def lIx (i : Nat) (loc : Env → MM (List Nat)) (me : Env → MM D) : Env → MM (List Nat) := fun ρ => do
  let path ← loc ρ
  let d ← me ρ
  match ownAt i ρ with
  | some m => match m.at path with
    | some m' => match stepIx m' d with
      | some j => if (m'.kid j).isSome then pure (path ++ [j]) else fail
      | none => fail
    | none => fail
  | none => fail
theorem rl_ix (hl : Rl K cl to i loc) (he : Rf K cl true te me) : Rl K cl (tOp (rSub K) to te) i (lIx i loc me) := by
  intro pa ρ σ H0 H F π path π' m mE Q S P h ho hmE k
  obtain ⟨pt, π1, e1, h⟩ := mm_bind_some h
  obtain ⟨d, π2, e2, h⟩ := mm_bind_some h
  rw [ho] at h
  simp only at h
  cases hm : m.at pt with
  | none => rw [hm] at h; cases h
  | some m' =>
  rw [hm] at h
  simp only at h
  cases hj : stepIx m' d with
  | none => rw [hj] at h; cases h
  | some j =>
  rw [hj] at h
  simp only at h
  by_cases hkk : (m'.kid j).isSome
  case neg => rw [if_neg hkk] at h; cases h
  rw [if_pos hkk] at h
  cases h
  obtain ⟨kk, hkk⟩ := Option.isSome_iff_exists.mp hkk
  refine hl pa ρ σ H0 H F π pt π1 m m' _ S P e1 ho hm fun v x H01 H1 s1 P1 hx hs => ?_
  have S1 := S.pure s1
  refine he pa ρ σ H01 H1 F π1 d π' _ S1 P1 e2 fun dv H02 H2 s2 P2 r2 => ?_
  have S2 := S1.pure s2
  obtain ⟨x', v', Fb, q1, q2, ⟨Fm, q3⟩, q4, _⟩ := S2.mut P2 (ownAt_some ho) hm
  rw [hx] at q1
  cases q1
  obtain ⟨_, _, _, w1, _, ⟨Fm1, w3⟩, _⟩ := S1.mut P1 (ownAt_some ho) hm
  rw [hx] at w1
  cases w1
  have hs2 : Sub H2 m x pt v := Sub.keep (G := ⟨K, cl, pa⟩) (fun c o hc q => by
    have := s2.all c o (by rw [hid_ne hc]; exact q)
    rw [hid_ne hc] at this; exact this) w3 hs
  have ev := Sub.unique hs2 q2
  subst ev
  simp only [pick, if_true] at r2
  have e0 : Ex H02 H2 := s2.inn.trans ex_hid
  have fin : ∀ w, Sub H2 m x (pt ++ [j]) w → Q w H2 := fun w hw => k w x H02 H2 (s1.trans (fun _ => P1.pa) s2) P2 hx hw
  cases m' with
  | lst ms =>
    simp only [stepIx] at hj
    cases d with
    | int n =>
      simp only [RepM] at q4
      obtain ⟨p, vs, F', g1, g2, g3, g4, g5, g6⟩ := q4
      simp only [Rep] at r2
      have hkl : ms[j]? = some kk := hkk
      have hjl : j < vs.length := by rw [g6.length]; exact (List.getElem?_eq_some_iff.mp hkl).1
      have hw : vs[j]? = some vs[j] := List.getElem?_eq_getElem hjl
      refine Or.inl (Or.inl ⟨p, vs, n, vs[j], g1, r2, Or.inl (Or.inl g5), ?_, fin _ (Sub.snoc pt hs2 hm g1 (Or.inl ⟨ms, rfl, g5⟩) hkk hw)⟩)
      unfold L2.atI
      rw [g6.length]
      simp only at hj
      rw [hj]
      exact hw
    | _ => cases hj
  | dK ks ms =>
    simp only [stepIx] at hj
    cases e : keyD d with
    | none => rw [e] at hj; cases hj
    | some ky =>
      rw [e] at hj
      simp only [RepM] at q4
      obtain ⟨p, vs, F', g1, g2, g3, g4, g5, gl, g6⟩ := q4
      have hv := keyD_rep r2 e
      subst hv
      obtain ⟨w, hw, hval⟩ := idx_val gl hj
      exact Or.inr ⟨p, w, g1, by rw [← hval]; exact DGet.k g5, fin _ (Sub.snoc pt hs2 hm g1 (Or.inr (Or.inl ⟨ks, ms, rfl, gl, g5⟩)) hkk hw)⟩
  | dT ks ms =>
    simp only [stepIx] at hj
    cases d with
    | tup es =>
      simp only at hj
      cases e : keysD es with
      | none => rw [e] at hj; cases hj
      | some ky =>
        rw [e] at hj
        simp only [RepM] at q4
        obtain ⟨p, vs, F', g1, g2, g3, g4, g5, gl, g6⟩ := q4
        simp only [Rep] at r2
        obtain ⟨c, ws, rfl, h4, h5⟩ := r2
        have hv := keysD_reps h5 e
        subst hv
        obtain ⟨w, hw, hval⟩ := idx_val gl hj
        exact Or.inr ⟨p, w, g1, by rw [← hval]; exact DGet.t g5 (e0 _ _ h4), fin _ (Sub.snoc pt hs2 hm g1 (Or.inr (Or.inr ⟨ks, ms, rfl, gl, g5⟩)) hkk hw)⟩
    | _ => cases hj
  | leaf d => cases hj
  | ins c fs ms => cases hj

/-! ### xs.append(e) -/
def sApp (i : Nat) (loc : Env → MM (List Nat)) (mo : Env → MM M) : Env → MM Out := fun ρ => do
  let path ← loc ρ
  let e ← mo ρ
  match ownAt i ρ with
  | some m => match m.at path with
    | some (.lst ms) => if ms.length < 100000 then pure (.next (ρ.set i (.ow (m.put path (.lst (ms ++ [e])))))) else fail
    | _ => fail
  | none => fail
/-- from the start of a statement to behind the change -/
theorem mut_step {G : Gm} {F F' F2 : List Addr} {H0 H H0' H' : Hp} {p : Addr} {o : HO} (s : Pure G H0 H H0' H') (i' : Ex H0' (hid G (upd H' p o))) (hp : p ∈ F) (hF : ∀ b ∈ F', b ∈ F ∨ b ∈ F2) (h2 : ∀ b ∈ F2, b ∈ F ∨ H b = none) : Step G F H0 H F' H0' (upd H' p o) :=
  ⟨s.fz, fun b u h1 h3 h4 => by
    have := s.all b u (by rw [hid_ne h3]; exact h4)
    rw [hid_ne h3] at this
    rw [upd_ne (fun (e : b = p) => h1 (by rw [e]; exact hp))]; exact this, i', fun b _ h3 h4 => s.new b h3 h4, fun b hb => by
    rcases hF b hb with z | z
    · exact Or.inl z
    · exact h2 b z⟩
theorem rs_app {mo : Env → MM M} (hl : Rl K cl to i loc) (he : Ro K cl te mo) : Rs K cl (tDrop (tBM K "list" rAppend to (tCons te tNil))) (sApp i loc mo) := by
  intro pa ρ σ H0 H F π o π' E S P hm k
  obtain ⟨path, π1, e1, hm⟩ := mm_bind_some hm
  obtain ⟨e, π2, e2, hm⟩ := mm_bind_some hm
  cases ho : ownAt i ρ with
  | none => rw [ho] at hm; cases hm
  | some m =>
  rw [ho] at hm
  simp only at hm
  cases hat : m.at path with
  | none => rw [hat] at hm; cases hm
  | some m' =>
  rw [hat] at hm
  cases m' with
  | lst ms =>
    simp only at hm
    by_cases hl' : ms.length < 100000
    case neg => rw [if_neg hl'] at hm; cases hm
    rw [if_pos hl'] at hm
    cases hm
    refine hl pa ρ σ H0 H F π path π1 m _ _ S P e1 ho hat fun v x H01 H1 s1 P1 hx hs => ?_
    have S1 := S.pure s1
    obtain ⟨x', v', Fb, q1, q2, ⟨Fm, q3⟩, q4, q5, q6, q7⟩ := S1.mut P1 (ownAt_some ho) hat
    rw [hx] at q1
    cases q1
    have ev := Sub.unique hs q2
    subst ev
    have q4' := q4
    simp only [RepM] at q4'
    obtain ⟨p, vs, F', g1, g2, g3, g4, g5, g6⟩ := q4'
    subst g1
    refine ⟨Or.inl ⟨rfl, vs, Or.inl (Or.inl g5)⟩, ?_⟩
    refine he pa ρ σ H01 H1 F π1 e π' _ S1 P1 e2 fun y H02 H2 Fe s2 P2 r2 nde fre => ?_
    have S2 := S1.pure s2
    obtain ⟨x2, v2, Fb2, u1, u2, ⟨Fm2, u3⟩, u4, u5, u6, u7⟩ := S2.mut P2 (ownAt_some ho) hat
    rw [hx] at u1
    cases u1
    have hs2 : Sub H2 m x path (.ref p) := Sub.keep (G := ⟨K, cl, pa⟩) (fun c o hc q => by
      have := s2.all c o (by rw [hid_ne hc]; exact q)
      rw [hid_ne hc] at this; exact this) q3 hs
    have ev2 := Sub.unique hs2 u2
    subst ev2
    simp only [RepM] at u4
    obtain ⟨p2, ws, F3, w1, w2, w3, w4, w5, w6⟩ := u4
    cases w1
    refine ⟨p, ws, y, rfl, rfl, w5, size_lt (m := 100000) (by rw [w6.length]; exact hl') (Nat.le_refl _), ?_⟩
    have fe2 : ∀ c ∈ Fe, c ∉ F := fun c hc z => (S1.env.free c z).2.2 (fre c hc)
    have pF3 : p ∉ F3 := by rw [w2] at u5; exact (List.nodup_cons.mp u5).1
    have peF : p ∉ Fe := fun z => fe2 p z (u6 p (by rw [w2]; simp))
    have hR : RepM ⟨K, cl, pa⟩ H02 (upd H2 p (.lst (ws ++ [y]))) (.lst (ms ++ [e])) (.ref p) (p :: (F3 ++ Fe)) := by
      simp only [RepM]
      refine ⟨p, ws ++ [y], F3 ++ Fe, rfl, rfl, w3, w4, upd_same, RepMs.snoc (r2.keep (Ex.refl _) (fun c hc o _ q => by rw [upd_ne (fun (e : c = p) => peF (by rw [← e]; exact hc))]; exact q) (fun _ _ _ z => z)) (w6.keep (Ex.refl _) (fun c hc o _ q => by rw [upd_ne (fun (e : c = p) => pF3 (by rw [← e]; exact hc))]; exact q) (fun _ _ _ z => z))⟩
    obtain ⟨Fn, Sn, Pn, fn⟩ := u7 p _ _ _ (by rw [w2]; simp) hR (by
      rw [w2] at u5
      refine List.nodup_cons.mpr ⟨fun z => (List.mem_append.mp z).elim pF3 peF, List.nodup_append.mpr ⟨(List.nodup_cons.mp u5).2, nde, fun a ha c hc e => ?_⟩⟩
      subst e
      exact fe2 a hc (u6 a (by rw [w2]; simp [ha]))) (fun c hc => by
      rcases List.mem_cons.mp hc with z | z
      · left; rw [w2, z]; simp
      · rcases List.mem_append.mp z with z | z
        · left; rw [w2]; simp [z]
        · right; exact fe2 c z)
    refine k σ H02 _ Fn Sn Pn (mut_step (F2 := p :: (F3 ++ Fe)) (s1.trans (fun _ => P1.pa) s2) Sn.i0 (u6 p (by rw [w2]; simp)) fn fun c hc => ?_)
    rcases List.mem_cons.mp hc with z | z
    · exact Or.inl (u6 c (by rw [w2, z]; simp))
    · rcases List.mem_append.mp z with z | z
      · exact Or.inl (u6 c (by rw [w2]; simp [z]))
      · exact Or.inr (none_back (G := ⟨K, cl, pa⟩) s1 P1 (fre c z))
  | _ => cases hm

/-! ### x[i] = v -/
def rSetD : TSet := fun o i v H Q => ∃ a H', o = .ref a ∧ DPut H a i v H' ∧ Q H'
theorem set_dict {X : Cx} (hu : X.A.units + 1 < cLine) : PSet X rSetD := by
  intro pins s σ H o i v ov iv u Q I ro ri rv h
  obtain ⟨a, H', rfl, g, q⟩ := h
  obtain rfl : ov = Value.ref a := ro
  exact d_setItem hu I g ri rv fun s4 I4 => ⟨H', I4, q⟩
def rSetA : TSet := fun o i v H Q => rSetL o i v H Q ∨ rSetD o i v H Q
theorem set_any {X : Cx} (hu : X.A.units + 1 < cLine) : PSet X rSetA := by
  intro pins s σ H o i v ov iv u Q I ro ri rv h
  rcases h with h | h
  · exact set_list pins s σ H o i v ov iv u Q I ro ri rv h
  · exact set_dict hu pins s σ H o i v ov iv u Q I ro ri rv h
def leafsOf : List M → Option (List D)
  | [] => some []
  | .leaf d :: r => (leafsOf r).map (d :: ·)
  | _ => none
theorem leafsOf_eq : ∀ {ms : List M} {ds : List D}, leafsOf ms = some ds → ms = ds.map M.leaf
  | [], _, h => by cases h; rfl
  | .leaf d :: r, _, h => by
    simp only [leafsOf] at h
    cases q : leafsOf r with
    | none => rw [q] at h; cases h
    | some es => rw [q] at h; cases h; rw [leafsOf_eq q]; rfl
  | .lst _ :: _, _, h => by cases h
  | .dK _ _ :: _, _, h => by cases h
  | .dT _ _ :: _, _, h => by cases h
  | .ins _ _ _ :: _, _, h => by cases h
def repl {κ : Type} [DecidableEq κ] : List κ → List D → κ → D → List D
  | k :: ks, d :: ds, x, e => (if k = x then e else d) :: repl ks ds x e
  | _, _, _, _ => []
def putD {κ : Type} [DecidableEq κ] (ks : List κ) (ds : List D) (x : κ) (e : D) : List κ × List D := if x ∈ ks then (ks, repl ks ds x e) else (ks ++ [x], ds ++ [e])
theorem repl_rep {κ : Type} [DecidableEq κ] {G : Gm} {H : Hp} {x : κ} {e : D} {y : V} (he : Rep G H e y) : ∀ {ks : List κ} {ds : List D} {vs : List V}, ks.length = vs.length → Reps G H ds vs → ∃ ws, (ks.zip vs).map (fun kv => if kv.1 = x then (kv.1, y) else kv) = ks.zip ws ∧ ks.length = ws.length ∧ Reps G H (repl ks ds x e) ws
  | [], ds, vs, hl, h => ⟨[], by simp, rfl, by cases ds <;> exact .nil⟩
  | k :: ks, [], vs, hl, h => by simp only [Reps] at h; subst h; simp at hl
  | k :: ks, d :: ds, vs, hl, h => by
    obtain ⟨v, r, q, h1, h2⟩ := h.cases
    subst q
    obtain ⟨ws, g1, g2, g3⟩ := repl_rep (x := x) he (by simpa using hl) h2
    by_cases c : k = x
    · refine ⟨y :: ws, ?_, by simp [g2], ?_⟩
      · simp only [List.zip_cons_cons, List.map_cons, c, if_true]
        rw [← g1]
      · simp only [repl, c, if_true]; exact .cons he g3
    · refine ⟨v :: ws, ?_, by simp [g2], ?_⟩
      · simp only [List.zip_cons_cons, List.map_cons, c, if_false]
        rw [← g1]
      · simp only [repl, c, if_false]; exact .cons h1 g3
theorem zip_any {κ : Type} [DecidableEq κ] (x : κ) : ∀ {ks : List κ} {vs : List V}, ks.length = vs.length → ((ks.zip vs).any fun kv => decide (kv.1 = x)) = decide (x ∈ ks)
  | [], _, _ => by simp
  | k :: ks, [], h => by simp at h
  | k :: ks, v :: vs, h => by
    simp only [List.zip_cons_cons, List.any_cons, zip_any x (ks := ks) (vs := vs) (by simpa using h)]
    by_cases c : k = x
    · subst c; simp
    · have : (x ∈ k :: ks) ↔ x ∈ ks := by simp [List.mem_cons, Ne.symm c]
      simp [c, this]
theorem putD_rep {κ : Type} [DecidableEq κ] {G : Gm} {H : Hp} {x : κ} {e : D} {y : V} (he : Rep G H e y) {ks : List κ} {ds : List D} {vs : List V} (hl : ks.length = vs.length) (h : Reps G H ds vs) :
    ∃ ws, putK (ks.zip vs) x y = (putD ks ds x e).1.zip ws ∧ (putD ks ds x e).1.length = ws.length ∧ Reps G H (putD ks ds x e).2 ws := by
  unfold putK putD
  rw [zip_any x hl]
  by_cases c : x ∈ ks
  · simp only [c, decide_true, if_true]
    exact repl_rep he hl h
  · simp only [c, decide_false, if_false]
    refine ⟨vs ++ [y], ?_, by simp [hl], h.append (.cons he .nil)⟩
    rw [if_neg (by decide), List.zip_append hl]
    rfl
/-- the change of an owned list or dict at an index -/
def setM (m : M) (d e : D) : Option M := match m with
  | .lst ms => match d with
    | .int n => match ixN ms.length n with
      | some j => if j < ms.length then some (.lst (ms.set j (.leaf e))) else none
      | none => none
    | _ => none
  | .dK ks ms => match keyD d, leafsOf ms with
    | some k, some ds => if ds.length < 100000 then some (.dK (putD ks ds k e).1 ((putD ks ds k e).2.map .leaf)) else none
    | _, _ => none
  | .dT ks ms => match d with
    | .tup es => match keysD es, leafsOf ms with
      | some k, some ds => if ds.length < 100000 then some (.dT (putD ks ds k e).1 ((putD ks ds k e).2.map .leaf)) else none
      | _, _ => none
    | _ => none
  | _ => none
def gSet (i : Nat) (loc : Env → MM (List Nat)) (mi : Env → MM D) : D → Env → MM Env := fun e ρ => do
  let path ← loc ρ
  let d ← mi ρ
  match ownAt i ρ with
  | some m => match m.at path with
    | some m' => match setM m' d e with
      | some m2 => pure (ρ.set i (.ow (m.put path m2)))
      | none => fail
    | none => fail
  | none => fail
theorem unleafs {G : Gm} {H0 H : Hp} : ∀ {ds : List D} {vs : List V} {F : List Addr}, RepMs G H0 H (ds.map M.leaf) vs F → Reps G H0 ds vs ∧ F = []
  | [], _, _, h => by simp only [List.map_nil, RepMs] at h; rw [h.1, h.2]; exact ⟨.nil, rfl⟩
  | d :: ds, _, _, h => by
    simp only [List.map_cons, RepMs, RepM] at h
    obtain ⟨v, r, F1, F2, e1, e2, ⟨h1, e3⟩, h2⟩ := h
    obtain ⟨a1, a2⟩ := unleafs h2
    subst e1 e2 e3 a2
    exact ⟨.cons h1 a1, rfl⟩
theorem rg_set {ti : TE} {mi : Env → MM D} (hl : Rl K cl to i loc) (hi : Rf K cl true ti mi) : Rg K cl (gSub to ti rSetA) (gSet i loc mi) := by
  intro pa ρ σ H0 H F π e y ρ' π' Q S P re h k
  obtain ⟨path, π1, e1, h⟩ := mm_bind_some h
  obtain ⟨d, π2, e2, h⟩ := mm_bind_some h
  cases ho : ownAt i ρ with
  | none => rw [ho] at h; cases h
  | some m =>
  rw [ho] at h
  simp only at h
  cases hat : m.at path with
  | none => rw [hat] at h; cases h
  | some m' =>
  rw [hat] at h
  simp only at h
  cases hset : setM m' d e with
  | none => rw [hset] at h; cases h
  | some m2 =>
  rw [hset] at h
  cases h
  refine hl pa ρ σ H0 H F π path π1 m m' _ S P e1 ho hat fun v x H01 H1 s1 P1 hx hs => ?_
  have S1 := S.pure s1
  obtain ⟨x', v', Fb, q1, q2, ⟨Fm, q3⟩, q4, q5, q6, q7⟩ := S1.mut P1 (ownAt_some ho) hat
  rw [hx] at q1
  cases q1
  have ev := Sub.unique hs q2
  subst ev
  refine hi pa ρ σ H01 H1 F π1 d π' _ S1 P1 e2 fun dv H02 H2 s2 P2 r2 => ?_
  have S2 := S1.pure s2
  obtain ⟨x2, v2, Fb2, u1, u2, ⟨Fm2, u3⟩, u4, u5, u6, u7⟩ := S2.mut P2 (ownAt_some ho) hat
  rw [hx] at u1
  cases u1
  have hs2 : Sub H2 m x path v := Sub.keep (G := ⟨K, cl, pa⟩) (fun c o hc q => by
    have := s2.all c o (by rw [hid_ne hc]; exact q)
    rw [hid_ne hc] at this; exact this) q3 hs
  have ev2 := Sub.unique hs2 u2
  subst ev2
  simp only [pick, if_true] at r2
  have re2 := Rep.mono (s1.fz.trans s2.fz) re
  have e0 : Ex H02 H2 := s2.inn.trans ex_hid
  have s12 := s1.trans (fun _ => P1.pa) s2
  have fin : ∀ (p : Addr) (o : HO) (F2 : List Addr), p ∈ Fb2 → RepM ⟨K, cl, pa⟩ H02 (upd H2 p o) m2 v F2 → F2.Nodup → (∀ b ∈ F2, b ∈ Fb2) → Q σ (upd H2 p o) := fun p o F2 hp hR nd hF => by
    obtain ⟨Fn, Sn, Pn, fn⟩ := u7 p o m2 F2 hp hR nd (fun c hc => Or.inl (hF c hc))
    exact k σ H02 _ Fn Sn Pn (mut_step (F2 := F2) s12 Sn.i0 (u6 p hp) fn fun c hc => Or.inl (u6 c (hF c hc)))
  cases m' with
  | lst ms =>
    simp only [setM] at hset
    cases d with
    | int n =>
      simp only at hset
      cases hj : ixN ms.length n with
      | none => rw [hj] at hset; cases hset
      | some j =>
        rw [hj] at hset
        simp only at hset
        by_cases hjl : j < ms.length
        case neg => rw [if_neg hjl] at hset; cases hset
        rw [if_pos hjl] at hset
        cases hset
        simp only [RepM] at u4
        obtain ⟨p, vs, F', g1, g2, g3, g4, g5, g6⟩ := u4
        subst g1 g2
        simp only [Rep] at r2
        refine Or.inl ⟨p, vs, n, j, rfl, r2, g5, by rw [g6.length]; exact hj, ?_⟩
        obtain ⟨w, Fa, Fb', Fc, a1, a2, a3, a4⟩ := g6.split (List.getElem?_eq_getElem hjl)
        have nd := (List.nodup_cons.mp u5)
        have pn : ∀ c ∈ Fa ++ Fc, c ≠ p := fun c hc e => by
          subst e
          apply nd.1
          rw [a2]
          rcases List.mem_append.mp hc with z | z <;> simp [z]
        have := a4 H02 (upd H2 p (.lst (vs.set j y))) (.leaf e) y [] (Ex.refl _) (fun c hc o q => by rw [upd_ne (pn c hc)]; exact q) (fun c hc => (S2.env.free c (u6 c (by rw [a2]; rcases List.mem_append.mp hc with z | z <;> simp [z]))).1) (by simp only [RepM]; exact ⟨re2, trivial⟩)
        refine fin p _ (p :: (Fa ++ ([] ++ Fc))) (by simp) ?_ ?_ ?_
        · simp only [RepM]
          exact ⟨p, _, _, rfl, rfl, g3, g4, upd_same, this⟩
        · have nd2 := nd.2
          rw [a2] at nd2
          simp only [List.nil_append]
          refine List.nodup_cons.mpr ⟨fun z => pn p z rfl, ?_⟩
          have b1 := List.nodup_append.mp nd2
          have b2 := List.nodup_append.mp b1.2.1
          exact List.nodup_append.mpr ⟨b1.1, b2.2.1, fun a ha c hc e => b1.2.2 a ha c (by simp [hc]) e⟩
        · intro c hc
          rw [a2]
          simp only [List.nil_append, List.mem_cons, List.mem_append] at hc ⊢
          rcases hc with z | z | z
          · exact Or.inl z
          · exact Or.inr (Or.inl z)
          · exact Or.inr (Or.inr (Or.inr z))
    | _ => cases hset
  | dK ks ms =>
    simp only [setM] at hset
    cases e3 : keyD d with
    | none => rw [e3] at hset; cases hset
    | some ky =>
      cases e4 : leafsOf ms with
      | none => rw [e3, e4] at hset; cases hset
      | some ds =>
        rw [e3, e4] at hset
        simp only at hset
        by_cases hl' : ds.length < 100000
        case neg => rw [if_neg hl'] at hset; cases hset
        rw [if_pos hl'] at hset
        cases hset
        have e5 := leafsOf_eq e4
        subst e5
        simp only [RepM] at u4
        obtain ⟨p, vs, F', g1, g2, g3, g4, g5, gl, g6⟩ := u4
        subst g1 g2
        obtain ⟨g7, g8⟩ := unleafs g6
        subst g8
        have hv := keyD_rep r2 e3
        subst hv
        obtain ⟨ws, p1, p2, p3⟩ := putD_rep (x := ky) re2 gl g7
        refine Or.inr ⟨p, _, rfl, DPut.k g5 (size_lt (m := 100000) (by rw [zip_len gl, g7.length]; exact hl') (Nat.le_refl _)), ?_⟩
        rw [p1]
        refine fin p _ [p] (by simp) ?_ (by simp) (by simp)
        simp only [RepM]
        exact ⟨p, ws, [], rfl, rfl, g3, g4, upd_same, p2, leafs p3⟩
  | dT ks ms =>
    simp only [setM] at hset
    cases d with
    | tup es =>
      simp only at hset
      cases e3 : keysD es with
      | none => rw [e3] at hset; cases hset
      | some ky =>
        cases e4 : leafsOf ms with
        | none => rw [e3, e4] at hset; cases hset
        | some ds =>
          rw [e3, e4] at hset
          simp only at hset
          by_cases hl' : ds.length < 100000
          case neg => rw [if_neg hl'] at hset; cases hset
          rw [if_pos hl'] at hset
          cases hset
          have e5 := leafsOf_eq e4
          subst e5
          simp only [RepM] at u4
          obtain ⟨p, vs, F', g1, g2, g3, g4, g5, gl, g6⟩ := u4
          subst g1 g2
          obtain ⟨g7, g8⟩ := unleafs g6
          subst g8
          simp only [Rep] at r2
          obtain ⟨c, zs, rfl, h4, h5⟩ := r2
          have hv := keysD_reps h5 e3
          subst hv
          obtain ⟨ws, p1, p2, p3⟩ := putD_rep (x := ky) re2 gl g7
          refine Or.inr ⟨p, _, rfl, DPut.t g5 (e0 _ _ h4) (size_lt (m := 100000) (by rw [zip_len gl, g7.length]; exact hl') (Nat.le_refl _)), ?_⟩
          rw [p1]
          refine fin p _ [p] (by simp) ?_ (by simp) (by simp)
          simp only [RepM]
          exact ⟨p, ws, [], rfl, rfl, g3, g4, upd_same, p2, leafs p3⟩
    | _ => cases hset
  | leaf d => cases hset
  | ins c fs ms => cases hset

/-! ### fresh dicts, lists of fresh things -/
def oDK : Env → MM M := fun _ => pure (.dK [] [])
theorem ro_dK : Ro K cl tDNewK oDK := by
  intro pa ρ σ H0 H F π x π' Q S P hm k
  cases hm
  intro p hp
  obtain ⟨s, P2⟩ := allocO (o := .dK []) S.i0 P hp
  refine k (.ref p) _ _ [p] s P2 ?_ (by simp) (by simpa using hp)
  simp only [RepM]
  exact ⟨p, [], [], rfl, rfl, free0 S.i0 hp, ne_pa P hp, by rw [upd_same]; rfl, rfl, by simp only [RepMs]; exact ⟨trivial, trivial⟩⟩
def oDT : Env → MM M := fun _ => pure (.dT [] [])
theorem ro_dT : Ro K cl tDNewT oDT := by
  intro pa ρ σ H0 H F π x π' Q S P hm k
  cases hm
  intro p hp
  obtain ⟨s, P2⟩ := allocO (o := .dT []) S.i0 P hp
  refine k (.ref p) _ _ [p] s P2 ?_ (by simp) (by simpa using hp)
  simp only [RepM]
  exact ⟨p, [], [], rfl, rfl, free0 S.i0 hp, ne_pa P hp, by rw [upd_same]; rfl, rfl, by simp only [RepMs]; exact ⟨trivial, trivial⟩⟩
/-- a row of fresh things as arguments -/
def Rao (K : PySem.W.Frag) (cl : Nat → Addr) (ta : TA) (m : Env → MM (List M)) : Prop := ∀ (pa : PA) (ρ : Env) (σ : L2.St) (H0 H : Hp) (F : List Addr) (π : Pen) (xs : List M) (π' : Pen) (Q : List V → Hp → Prop),
  SA ⟨K, cl, pa⟩ ρ σ H0 H F → PenAt ⟨K, cl, pa⟩ π H0 H → m ρ π = some (xs, π') →
  (∀ vs H0' H' Fn, Pure ⟨K, cl, pa⟩ H0 H H0' H' → PenAt ⟨K, cl, pa⟩ π' H0' H' → RepMs ⟨K, cl, pa⟩ H0' H' xs vs Fn → Fn.Nodup → (∀ b ∈ Fn, H b = none) → Q vs H') → ta σ H Q
def oaNil : Env → MM (List M) := fun _ => pure []
def oaCons (mo : Env → MM M) (mr : Env → MM (List M)) : Env → MM (List M) := fun ρ => do
  let x ← mo ρ
  let xs ← mr ρ
  pure (x :: xs)
theorem rao_nil : Rao K cl tNil oaNil := by
  intro pa ρ σ H0 H F π xs π' Q S P hm k
  cases hm
  exact k [] H0 H [] (Pure.refl S.i0) P (by simp only [RepMs]; exact ⟨trivial, trivial⟩) List.nodup_nil (by simp)
theorem rao_cons {mo : Env → MM M} {tr : TA} {mr : Env → MM (List M)} (h1 : Ro K cl te mo) (h2 : Rao K cl tr mr) : Rao K cl (tCons te tr) (oaCons mo mr) := by
  intro pa ρ σ H0 H F π xs π' Q S P hm k
  obtain ⟨x, π1, e1, hm⟩ := mm_bind_some hm
  obtain ⟨ys, π2, e2, hm⟩ := mm_bind_some hm
  cases hm
  refine h1 pa ρ σ H0 H F π x π1 _ S P e1 fun v H01 H1 F1 s1 P1 r1 n1 f1 => ?_
  refine h2 pa ρ σ H01 H1 F π1 ys π' _ (S.pure s1) P1 e2 fun vs H02 H2 F2 s2 P2 r2 n2 f2 => ?_
  refine k (v :: vs) H02 H2 (F1 ++ F2) (s1.trans (fun _ => P1.pa) s2) P2 ?_ ?_ fun c hc => ?_
  · simp only [RepMs]
    exact ⟨v, vs, F1, F2, rfl, rfl, r1.keep s2.fz (fun c _ o hc q => by
      have := s2.all c o (by rw [hid_ne hc]; exact q)
      rw [hid_ne hc] at this; exact this) (fun c _ h1 h2 => s2.new c h1 h2), r2⟩
  · exact List.nodup_append.mpr ⟨n1, n2, fun a ha c hc e => (r1.free a ha).2.2 (by rw [e]; exact f2 c hc)⟩
  · rcases List.mem_append.mp hc with z | z
    · exact f1 c z
    · exact none_back (G := ⟨K, cl, pa⟩) s1 P1 (f2 c z)
def oLstO (mr : Env → MM (List M)) : Env → MM M := fun ρ => do
  let xs ← mr ρ
  if xs.length ≤ 100000 then pure (.lst xs) else fail
theorem ro_lstO {tr : TA} {mr : Env → MM (List M)} (h : Rao K cl tr mr) : Ro K cl (tLst tr) (oLstO mr) := by
  intro pa ρ σ H0 H F π x π' Q S P hm k
  obtain ⟨xs, π1, e1, hm⟩ := mm_bind_some hm
  refine h pa ρ σ H0 H F π xs π1 _ S P e1 fun vs H01 H1 Fn s1 P1 r1 n1 f1 => ?_
  by_cases hl : xs.length ≤ 100000
  case neg => rw [if_neg hl] at hm; cases hm
  rw [if_pos hl] at hm
  cases hm
  refine ⟨size_ok (by rw [r1.length]; exact hl), fun p hp => ?_⟩
  obtain ⟨s2, P2⟩ := allocO (o := .lst vs) s1.inn P1 hp
  have hpn : p ∉ Fn := fun z => (r1.free p z).2.2 hp
  refine k (.ref p) _ _ (p :: Fn) (s1.trans (fun _ => P1.pa) s2) P2 ?_ (List.nodup_cons.mpr ⟨hpn, n1⟩) fun c hc => ?_
  · simp only [RepM]
    exact ⟨p, vs, Fn, rfl, rfl, free0 s1.inn hp, ne_pa P1 hp, upd_same, r1.keep (Ex.refl _) (fun c hc o _ q => by rw [upd_ne (fun (e : c = p) => hpn (by rw [← e]; exact hc))]; exact q) (fun _ _ _ z => z)⟩
  · rcases List.mem_cons.mp hc with z | z
    · rw [z]; exact none_back (G := ⟨K, cl, pa⟩) s1 P1 hp
    · exact f1 c z
/-- [x] * n of leafs: told by the frozen rule; a fresh list by a copy of its things -/
def oMul (mo : Env → MM M) (mn : Env → MM D) : Env → MM M := fun ρ => do
  let x ← mo ρ
  let d ← mn ρ
  match x, d with
  | .lst ms, .int n => match leafsOf ms with
    | some ds => if n < 2 ^ 62 ∧ ds.length * n.toNat ≤ 100000 ∧ -(2 ^ 62) < n then pure (.lst ((List.replicate n.toNat ds).flatten.map .leaf)) else fail
    | none => fail
  | _, _ => fail
theorem ro_mul {mo : Env → MM M} {mn : Env → MM D} (h1 : Ro K cl ta mo) (h2 : Rf K cl true tb mn) : Ro K cl (tOp (rMulA K) ta tb) (oMul mo mn) := by
  intro pa ρ σ H0 H F π x π' Q S P hm k
  obtain ⟨y, π1, e1, hm⟩ := mm_bind_some hm
  obtain ⟨d, π2, e2, hm⟩ := mm_bind_some hm
  refine h1 pa ρ σ H0 H F π y π1 _ S P e1 fun v H01 H1 F1 s1 P1 r1 n1 f1 => ?_
  refine h2 pa ρ σ H01 H1 F π1 d π2 _ (S.pure s1) P1 e2 fun w H02 H2 s2 P2 r2 => ?_
  cases y with
  | lst ms =>
    cases d with
    | int n =>
      simp only at hm
      cases q : leafsOf ms with
      | none => rw [q] at hm; cases hm
      | some ds =>
        rw [q] at hm
        simp only at hm
        by_cases c : n < 2 ^ 62 ∧ ds.length * n.toNat ≤ 100000 ∧ -(2 ^ 62) < n
        case neg => rw [if_neg c] at hm; cases hm
        rw [if_pos c] at hm
        cases hm
        have eq := leafsOf_eq q
        subst eq
        simp only [RepM] at r1
        obtain ⟨p, xs, F', g1, g2, g3, g4, g5, g6⟩ := r1
        obtain ⟨g7, g8⟩ := unleafs g6
        subst g1
        simp only [Rep] at r2
        have g5' : H2 p = some (.lst xs) := by
          have := s2.all p _ (by rw [hid_ne g4]; exact g5)
          rw [hid_ne g4] at this; exact this
        refine Or.inr ⟨p, n, xs, rfl, r2, g5', by omega, by omega, size_ok (by rw [g7.length]; exact c.2.1), fun r hr => ?_⟩
        obtain ⟨s3, P3⟩ := allocO (o := .lst (List.replicate n.toNat xs).flatten) s2.inn P2 hr
        have s12 := s1.trans (fun _ => P1.pa) s2
        refine k (.ref r) _ _ [r] (s12.trans (fun _ => P2.pa) s3) P3 ?_ (by simp) (by simpa using none_back (G := ⟨K, cl, pa⟩) s12 P2 hr)
        simp only [RepM]
        exact ⟨r, _, [], rfl, rfl, free0 s2.inn hr, ne_pa P2 hr, upd_same, leafs (Reps.rep (Reps.mono s2.fz g7) _)⟩
    | _ => cases hm
  | _ => cases hm
end
end DL
set_option Elab.async false
set_option linter.all false
set_option maxRecDepth 100000
set_option maxHeartbeats 4000000
namespace DL
open PySem L2

section
variable {K : PySem.W.Frag} {cl : Nat → Addr}
variable {b bi bo : Bool} {ta tb tc te : TE} {ma mb mc me : Env → MM D} {t u : TT} {mt mu : Env → MM Bool} {tg : TA} {mg : Env → MM (List D)} {t1 t2 : TS} {m1 m2 : Env → MM Out}

/-! ### own defs -/
def spD (K : PySem.W.Frag) (cl : Nat → Addr) (n : Nat) (m : List D → MM D) : Sp := fun vs H Q _ => ∃ (pa : PA) (H0 : Hp) (π : Pen) (ds : List D) (d : D) (π' : Pen), Ex H0 (hid ⟨K, cl, pa⟩ H) ∧ PenAt ⟨K, cl, pa⟩ π H0 H ∧
  Reps ⟨K, cl, pa⟩ H0 ds vs ∧ ds.length = n ∧ m ds π = some (d, π') ∧ Kont ⟨K, cl, pa⟩ true H0 H d π' Q
theorem spD_len {n : Nat} {m : List D → MM D} {vs : List V} {H : Hp} {Q : VK} {E : XK} (h : spD K cl n m vs H Q E) : vs.length = n := by
  obtain ⟨pa, H0, π, ds, d, π', i, P, r, e, _⟩ := h
  rw [r.length, e]
def eDef (n : Nat) (m : List D → MM D) (mg : Env → MM (List D)) : Env → MM D := fun ρ => do
  let ds ← mg ρ
  if ds.length = n then m ds else fail
theorem rf_def {n : Nat} {m : List D → MM D} {E : XK} (h : Ra K cl true tg mg) : Rf K cl b (tCall (spD K cl n m) [] E tg) (eDef n m mg) := by
  intro pa ρ σ H0 H F π d π' Q S P hm k
  obtain ⟨ds, π1, e1, hm⟩ := mm_bind_some hm
  by_cases hl : ds.length = n
  case neg => rw [if_neg hl] at hm; cases hm
  rw [if_pos hl] at hm
  refine h pa ρ σ H0 H F π ds π1 _ S P e1 fun vs H01 H1 s1 P1 r1 => ?_
  rw [List.append_nil]
  refine ⟨pa, H01, π1, ds, d, π', s1.inn, P1, r1, hl, hm, fun v H02 H2 s2 P2 r2 => ?_⟩
  exact k v H02 H2 (s1.trans (fun _ => P1.pa) s2) P2 (Rep.mono (pick_of0 s2.inn) r2)
theorem Step.pure0 {G : Gm} {H0 H H0' H' : Hp} {F' : List Addr} (s : Step G [] H0 H F' H0' H') : Pure G H0 H H0' H' :=
  ⟨s.fz, fun c o h => by
    obtain ⟨h1, h2⟩ := hid_some h
    rw [hid_ne h1]; exact s.keep c o (by simp) h1 h2, s.inn, fun c h1 h2 => s.new c (by simp) h1 h2⟩
theorem EnvOk.start0 {G : Gm} {H0 H : Hp} : ∀ k : Nat, EnvOk G H0 H (List.replicate k Sl.un) (List.replicate k none) []
  | 0 => ⟨rfl, rfl⟩
  | k + 1 => ⟨none, _, [], [], rfl, rfl, rfl, EnvOk.start0 k⟩
theorem EnvOk.start {G : Gm} {H0 H : Hp} (k : Nat) : ∀ {ds : List D} {vs : List V}, Reps G H0 ds vs → EnvOk G H0 H (ds.map Sl.sh ++ List.replicate k Sl.un) (vs.map some ++ List.replicate k none) []
  | [], vs, h => by
    simp only [Reps] at h
    subst h
    exact EnvOk.start0 k
  | d :: ds, vs, h => by
    obtain ⟨v, r, q, h1, h2⟩ := h.cases
    subst q
    exact ⟨some v, _, [], [], rfl, rfl, ⟨rfl, v, rfl, h1⟩, EnvOk.start k h2⟩
/-- the body of a def with N names -/
def runD (N : Nat) (ms : Env → MM Out) : List D → MM D := fun ds => do
  let o ← ms (ds.map Sl.sh ++ List.replicate (N - ds.length) Sl.un)
  match o with
  | .next _ => pure .non
  | .ret d => pure d
  | _ => fail
theorem def_ok {N : List Str} {n : Nat} {ms : Env → MM Out} {vs : List V} {H : Hp} {Q : VK} {E : XK} (hb : Rs K cl t1 ms) (h : spD K cl n (runD N.length ms) vs H Q E) : t1 { nx := fun _ H' => Q .non H', rt := Q } (L2.start N vs) H := by
  obtain ⟨pa, H0, π, ds, d, π', i, P, r, e, hm, k⟩ := h
  obtain ⟨o, π1, e1, hm⟩ := mm_bind_some hm
  have el := r.length
  refine hb pa _ _ H0 H [] π o π1 _ ⟨i, (show EnvOk _ H0 H _ (L2.start N vs) [] by unfold L2.start; rw [el]; exact EnvOk.start _ r), List.nodup_nil⟩ P e1 ?_
  cases o with
  | next ρ' =>
    cases hm
    exact fun σ' H0' H' F' S' P' s' => k .non H0' H' s'.pure0 P' (by simp only [Rep])
  | ret d' =>
    cases hm
    exact fun v H0' H' P' s' r' => k v H0' H' s'.pure0 P' r'
  | brk ρ' => cases hm
  | cont ρ' => cases hm

/-! ### instances -/
/-- what __init__ of the class of number c promises: behind it the instance (at x) is ready, and frozen -/
def spI (K : PySem.W.Frag) (cl : Nat → Addr) (n cn : Nat) (m : List D → MM D) : Sp := fun vs H Q _ => ∃ (pa : PA) (H0 : Hp) (π : Pen) (x dx : Addr) (us : List V) (ds : List D) (d : D) (π' : Pen), vs = .ref x :: us ∧ Ex H0 (hid ⟨K, cl, pa⟩ H) ∧ PenAt ⟨K, cl, pa⟩ π H0 H ∧
  H0 x = none ∧ x ≠ pa.a ∧ H x = some (.ins (cl cn) dx []) ∧ Reps ⟨K, cl, pa⟩ H0 ds us ∧ ds.length = n ∧ m ds π = some (d, π') ∧
  ∀ H0' H', Step ⟨K, cl, pa⟩ [x] H0 H [] H0' H' → PenAt ⟨K, cl, pa⟩ π' H0' H' → Rep ⟨K, cl, pa⟩ H0' d (.ref x) → Q .non H'
theorem spI_len {n cn : Nat} {m : List D → MM D} {vs : List V} {H : Hp} {Q : VK} {E : XK} (h : spI K cl n cn m vs H Q E) : vs.length = n + 1 := by
  obtain ⟨pa, H0, π, x, dx, us, ds, d, π', rfl, i, P, _, _, _, r, e, _⟩ := h
  rw [List.length_cons, r.length, e]
theorem rf_make {n cn : Nat} {m : List D → MM D} {E : XK} (h : Ra K cl true tg mg) : Rf K cl b (tMake (cl cn) (spI K cl n cn m) [] E tg) (eDef n m mg) := by
  intro pa ρ σ H0 H F π d π' Q S P hm k
  obtain ⟨ds, π1, e1, hm⟩ := mm_bind_some hm
  by_cases hl : ds.length = n
  case neg => rw [if_neg hl] at hm; cases hm
  rw [if_pos hl] at hm
  refine h pa ρ σ H0 H F π ds π1 _ S P e1 fun vs H01 H1 s1 P1 r1 x dx nx ndx nex => ?_
  rw [List.append_nil]
  have xp : x ≠ pa.a := ne_pa (G := ⟨K, cl, pa⟩) P1 nx
  have dp : dx ≠ pa.a := ne_pa (G := ⟨K, cl, pa⟩) P1 ndx
  have u : ∀ c o, H1 c = some o → (upd (upd H1 dx (.own x)) x (.ins (cl cn) dx [])) c = some o := fun c o q => by
    rw [upd_ne (fun (e : c = x) => by rw [e, nx] at q; cases q), upd_ne (fun (e : c = dx) => by rw [e, ndx] at q; cases q)]; exact q
  have i2 : Ex H01 (hid ⟨K, cl, pa⟩ (upd (upd H1 dx (.own x)) x (.ins (cl cn) dx []))) := fun c o q => by
    obtain ⟨h1, h2⟩ := hid_some (s1.inn c o q)
    rw [hid_ne h1]; exact u c o h2
  have P2 : PenAt ⟨K, cl, pa⟩ π1 H01 (upd (upd H1 dx (.own x)) x (.ins (cl cn) dx [])) := ⟨P1.cs, u _ _ P1.at_⟩
  refine ⟨pa, H01, π1, x, dx, vs, ds, d, π', rfl, i2, P2, free0 s1.inn nx, xp, upd_same, r1, hl, hm, fun H02 H2 s2 P3 r2 => ⟨rfl, ?_⟩⟩
  have s3 : Pure ⟨K, cl, pa⟩ H01 H1 H02 H2 := ⟨s2.fz, fun c o q => by
    obtain ⟨h1, h2⟩ := hid_some q
    rw [hid_ne h1]
    exact s2.keep c o (by
      intro z
      have : c = x := by simpa using z
      rw [this, nx] at h2; cases h2) h1 (u c o h2), s2.inn, fun c h1 h2 => s2.new c (by
      intro z
      have : c = x := by simpa using z
      rw [this] at h1; exact h1 nx) (by
      cases q : H1 c with
      | none => exact absurd q h1
      | some o => rw [u c o q]; intro z; cases z) h2⟩
  exact k (.ref x) H02 H2 (s1.trans (fun _ => P1.pa) s3) P3 (Rep.mono (pick_of0 s2.inn) r2)
/-- an __init__'s statements, self (slot 0) at x, its fields so far fs, ds -/
def Rj (K : PySem.W.Frag) (cl : Nat → Addr) (cn : Nat) (ts : TS) (m : List Str → List D → Env → MM D) : Prop := ∀ (pa : PA) (ρ : Env) (σ : L2.St) (H0 H : Hp) (π : Pen) (x dx : Addr) (fs : List Str) (vs : List V) (ds : List D) (d : D) (π' : Pen) (E : Ends),
  SA ⟨K, cl, pa⟩ ρ σ H0 H [] → PenAt ⟨K, cl, pa⟩ π H0 H → σ[0]? = some (some (.ref x)) → H0 x = none → x ≠ pa.a → H x = some (.ins (cl cn) dx (fs.zip vs)) → fs.length = vs.length → Reps ⟨K, cl, pa⟩ H0 ds vs → m fs ds ρ π = some (d, π') →
  (∀ σ' H0' H', Step ⟨K, cl, pa⟩ [x] H0 H [] H0' H' → PenAt ⟨K, cl, pa⟩ π' H0' H' → Rep ⟨K, cl, pa⟩ H0' d (.ref x) → E.nx σ' H') → ts E σ H
def jEnd (cn : Nat) : List Str → List D → Env → MM D := fun fs ds _ => pure (.ins cn fs ds)
theorem rj_end {cn : Nat} : Rj K cl cn tNext (jEnd cn) := by
  intro pa ρ σ H0 H π x dx fs vs ds d π' E S P h0 nx xp hx hl r hm k
  cases hm
  have e : Ex H0 (upd H0 x (.ins (cl cn) dx (fs.zip vs))) := ex_upd (Ex.refl _) nx
  refine k σ (upd H0 x (.ins (cl cn) dx (fs.zip vs))) H ⟨e, fun _ _ _ _ q => q, fun c o q => ?_, fun c h1 _ h3 => ?_, by simp⟩ ⟨e _ _ P.cs, P.at_⟩ ?_
  · by_cases ec : c = x
    · subst ec
      rw [upd_same] at q; cases q
      rw [hid_ne xp]; exact hx
    · rw [upd_ne ec] at q; exact S.i0 c o q
  · rw [upd_ne (fun e => h1 (by simp [e]))]; exact h3
  · simp only [Rep]
    exact ⟨x, dx, vs, rfl, upd_same, hl, Reps.mono e r⟩
def jput : List Str → List D → Str → D → List Str × List D
  | g :: fs, d :: ds, x, e => if g = x then (g :: fs, e :: ds) else (g :: (jput fs ds x e).1, d :: (jput fs ds x e).2)
  | _, _, x, e => ([x], [e])
theorem putF_zip {G : Gm} {H : Hp} {x : Str} {e : D} {y : V} (he : Rep G H e y) : ∀ {fs : List Str} {ds : List D} {vs : List V}, fs.length = vs.length → Reps G H ds vs →
    ∃ ws, putF x y (fs.zip vs) = (jput fs ds x e).1.zip ws ∧ (jput fs ds x e).1.length = ws.length ∧ Reps G H (jput fs ds x e).2 ws
  | [], ds, vs, hl, h => by
    have : vs = [] := List.length_eq_zero_iff.mp hl.symm
    subst this
    have : ds = [] := by cases ds with
      | nil => rfl
      | cons d r => obtain ⟨_, _, q, _⟩ := h.cases; cases q
    subst this
    exact ⟨[y], rfl, rfl, .cons he .nil⟩
  | g :: fs, [], vs, hl, h => by simp only [Reps] at h; subst h; simp at hl
  | g :: fs, d :: ds, vs, hl, h => by
    obtain ⟨v, r, q, h1, h2⟩ := h.cases
    subst q
    simp only [List.zip_cons_cons, putF, jput]
    by_cases c : g = x
    · rw [if_pos c, if_pos c]
      exact ⟨y :: r, rfl, hl, .cons he h2⟩
    · rw [if_neg c, if_neg c]
      obtain ⟨ws, g1, g2, g3⟩ := putF_zip he (by simpa using hl) h2
      exact ⟨v :: ws, by rw [g1]; rfl, by simp [g2], .cons h1 g3⟩
def jFld (f : Str) (me : Env → MM D) (mr : List Str → List D → Env → MM D) : List Str → List D → Env → MM D := fun fs ds ρ => do
  let e ← me ρ
  if fs.length < 900 then mr (jput fs ds f e).1 (jput fs ds f e).2 ρ else fail
theorem Pure.at {G : Gm} {H0 H H0' H' : Hp} (s : Pure G H0 H H0' H') {x : Addr} {o : HO} (xp : x ≠ G.pa) (h0 : H0 x = none) (hx : H x = some o) : H0' x = none ∧ H' x = some o := by
  have h1 := s.all x o (by rw [hid_ne xp]; exact hx)
  rw [hid_ne xp] at h1
  exact ⟨s.new x (by rw [hx]; intro z; cases z) h0, h1⟩
theorem rj_fld {cn : Nat} {f : Str} {tr : TS} {mr : List Str → List D → Env → MM D} (hc : Cls K (cl cn)) (hn : NoAttr K (cl cn) f) (he : Rf K cl true te me) (hr : Rj K cl cn tr mr) :
    Rj K cl cn (tSeq (sFld K (tVar 0) te f) tr) (jFld f me mr) := by
  intro pa ρ σ H0 H π x dx fs vs ds d π' E S P h0 nx xp hx hl r hm k
  obtain ⟨e, π1, e1, hm⟩ := mm_bind_some hm
  by_cases c9 : fs.length < 900
  case neg => rw [if_neg c9] at hm; cases hm
  rw [if_pos c9] at hm
  refine he pa ρ σ H0 H [] π e π1 _ S P e1 fun y H01 H1 s1 P1 re => ?_
  simp only [pick, if_true] at re
  obtain ⟨nx1, hx1⟩ := s1.at (G := ⟨K, cl, pa⟩) xp nx hx
  have r1 := Reps.mono s1.fz r
  refine ⟨_, h0, x, cl cn, dx, fs.zip vs, rfl, hx1, hc, hn, by rw [List.length_zip, hl, Nat.min_self, ← hl]; omega, ?_⟩
  obtain ⟨ws, p1, p2, p3⟩ := putF_zip (x := f) re hl r1
  rw [p1]
  have S1 := S.pure s1
  have S2 : SA ⟨K, cl, pa⟩ ρ σ H01 (upd H1 x (.ins (cl cn) dx ((jput fs ds f e).1.zip ws))) [] := S1.other (by simp) nx1
  have P2 : PenAt ⟨K, cl, pa⟩ π1 H01 (upd H1 x (.ins (cl cn) dx ((jput fs ds f e).1.zip ws))) := P1.grow (Ex.refl _) (upd_ne (Ne.symm xp))
  refine hr pa ρ σ H01 _ π1 x dx _ ws _ d π' E S2 P2 h0 nx1 xp upd_same p2 p3 hm fun σ' H0' H' s2 P3 rd => ?_
  refine k σ' H0' H' ⟨s1.fz.trans s2.fz, fun b o h1 h2 h3 => ?_, s2.inn, fun b h1 h2 h3 => ?_, by simp⟩ P3 rd
  · have := s1.all b o (by rw [hid_ne h2]; exact h3)
    rw [hid_ne h2] at this
    exact s2.keep b o h1 h2 (by rw [upd_ne (fun z => h1 (by simp [z]))]; exact this)
  · refine s2.new b h1 ?_ (s1.new b h2 h3)
    rw [upd_ne (fun z => h1 (by simp [z]))]
    cases q : H b with
    | none => exact absurd q h2
    | some o =>
      by_cases eb : b = pa.a
      · subst eb; exact P1.pa
      · have := s1.all b o (by rw [hid_ne (G := ⟨K, cl, pa⟩) eb]; exact q)
        rw [hid_ne (G := ⟨K, cl, pa⟩) eb] at this
        rw [this]; intro z; cases z
theorem Rj.pre {pa : PA} {H0 H H01 H1 : Hp} {π1 : Pen} {x : Addr} {E : L2.St → Hp → Prop} {d : D} {π' : Pen} (s1 : Pure ⟨K, cl, pa⟩ H0 H H01 H1) (P1 : PenAt ⟨K, cl, pa⟩ π1 H01 H1)
    (k : ∀ σ' H0' H', Step ⟨K, cl, pa⟩ [x] H0 H [] H0' H' → PenAt ⟨K, cl, pa⟩ π' H0' H' → Rep ⟨K, cl, pa⟩ H0' d (.ref x) → E σ' H') :
    ∀ σ' H0' H', Step ⟨K, cl, pa⟩ [x] H01 H1 [] H0' H' → PenAt ⟨K, cl, pa⟩ π' H0' H' → Rep ⟨K, cl, pa⟩ H0' d (.ref x) → E σ' H' := fun σ' H0' H' s2 P3 rd =>
  k σ' H0' H' (Step.trans (G := ⟨K, cl, pa⟩) (fun _ => P1.pa) s1.step s2) P3 rd
/-- a local, frozen -/
def jAsg (i : Nat) (me : Env → MM D) (mr : List Str → List D → Env → MM D) : List Str → List D → Env → MM D := fun fs ds ρ => do
  let e ← me ρ
  mr fs ds (ρ.set i (.sh e))
theorem rj_asg {cn i : Nat} {tr : TS} {mr : List Str → List D → Env → MM D} (hi : i ≠ 0) (he : Rf K cl true te me) (hr : Rj K cl cn tr mr) : Rj K cl cn (tSeq (tAsg te (gName i)) tr) (jAsg i me mr) := by
  intro pa ρ σ H0 H π x dx fs vs ds d π' E S P h0 nx xp hx hl r hm k
  obtain ⟨e, π1, e1, hm⟩ := mm_bind_some hm
  refine he pa ρ σ H0 H [] π e π1 _ S P e1 fun y H01 H1 s1 P1 re => ?_
  simp only [pick, if_true] at re
  obtain ⟨nx1, hx1⟩ := s1.at (G := ⟨K, cl, pa⟩) xp nx hx
  obtain ⟨F', S', f'⟩ := (S.pure s1).set i (x := some y) (Fs := []) (s := .sh e) ⟨rfl, y, rfl, re⟩ List.nodup_nil (by simp)
  have : F' = [] := List.eq_nil_iff_forall_not_mem.mpr fun c hc => by simpa using f' c hc
  subst this
  exact hr pa _ _ H01 H1 π1 x dx fs vs ds d π' E S' P1 (by rw [List.getElem?_set_ne hi]; exact h0) nx1 xp hx1 hl (Reps.mono s1.fz r) hm (Rj.pre s1 P1 k)
/-- if test: raise, never so -/
def jNot (mt : Env → MM Bool) (mr : List Str → List D → Env → MM D) : List Str → List D → Env → MM D := fun fs ds ρ => do
  let c ← mt ρ
  if c then fail else mr fs ds ρ
theorem rj_not {cn : Nat} {tr : TS} {mr : List Str → List D → Env → MM D} (he : Rt K cl t mt) (hr : Rj K cl cn tr mr) : Rj K cl cn (tSeq (tIfS t tNever tNext) tr) (jNot mt mr) := by
  intro pa ρ σ H0 H π x dx fs vs ds d π' E S P h0 nx xp hx hl r hm k
  obtain ⟨c, π1, e1, hm⟩ := mm_bind_some hm
  refine he pa ρ σ H0 H [] π c π1 _ S P e1 fun H01 H1 s1 P1 => ?_
  obtain ⟨nx1, hx1⟩ := s1.at (G := ⟨K, cl, pa⟩) xp nx hx
  cases c with
  | true => cases hm
  | false => exact hr pa _ _ H01 H1 π1 x dx fs vs ds d π' E (S.pure s1) P1 h0 nx1 xp hx1 hl (Reps.mono s1.fz r) hm (Rj.pre s1 P1 k)
/-- the body of an __init__ with N names -/
def runI (N : Nat) (ms : List Str → List D → Env → MM D) : List D → MM D := fun ds => ms [] [] (Sl.un :: (ds.map Sl.sh ++ List.replicate (N - (ds.length + 1)) Sl.un))
theorem init_ok {N : List Str} {n cn : Nat} {ms : List Str → List D → Env → MM D} {vs : List V} {H : Hp} {Q : VK} {E : XK} (hb : Rj K cl cn t1 ms) (h : spI K cl n cn (runI N.length ms) vs H Q E) : t1 { nx := fun _ H' => Q .non H', rt := Q } (L2.start N vs) H := by
  obtain ⟨pa, H0, π, x, dx, us, ds, d, π', rfl, i, P, nx, xp, hx, r, e, hm, k⟩ := h
  have el := r.length
  refine hb pa _ _ H0 H π x dx [] [] [] d π' _ ⟨i, (show EnvOk _ H0 H _ (L2.start N (V.ref x :: us)) [] from ?_), List.nodup_nil⟩ P rfl nx xp hx rfl .nil hm fun σ' H0' H' s P' rd => k H0' H' s P' rd
  unfold L2.start
  rw [List.map_cons, List.length_cons, el]
  exact ⟨_, _, [], [], rfl, rfl, rfl, EnvOk.start _ r⟩

/-! ### fields -/
def flook : List Str → List D → Str → Option D
  | k :: ks, d :: ds, f => if k = f then some d else flook ks ds f
  | _, _, _ => none
theorem flook_rep {G : Gm} {H : Hp} {f : Str} {e : D} : ∀ {ks : List Str} {ds : List D} {vs : List V}, ks.length = vs.length → Reps G H ds vs → flook ks ds f = some e → ∃ v, (ks.zip vs).lookup f = some v ∧ Rep G H e v
  | [], _, _, _, _, h => by simp [flook] at h
  | k :: ks, [], _, _, _, h => by simp [flook] at h
  | k :: ks, d :: ds, vs, hl, r, h => by
    obtain ⟨v, rr, q, h1, h2⟩ := r.cases
    subst q
    simp only [flook] at h
    by_cases c : k = f
    · rw [if_pos c] at h; cases h
      exact ⟨v, by simp [List.zip_cons_cons, List.lookup, c], h1⟩
    · rw [if_neg c] at h
      obtain ⟨w, g1, g2⟩ := flook_rep (by simpa using hl) h2 h
      have : (f == k) = false := by simpa using Ne.symm c
      exact ⟨w, by simp [List.zip_cons_cons, List.lookup, this, g1], g2⟩
def eFld (okc : Nat → Str → Bool) (f : Str) (me : Env → MM D) : Env → MM D := fun ρ => do
  let d ← me ρ
  match d with
  | .ins c fs ds => if okc c f then ofO (flook fs ds f) else fail
  | _ => fail
theorem rf_fld {okc : Nat → Str → Bool} {f : Str} (hok : ∀ c, okc c f = true → Cls K (cl c) ∧ NoAttr K (cl c) f) (h : Rf K cl bi te me) : Rf K cl bi (tFld K te f) (eFld okc f me) := by
  intro pa ρ σ H0 H F π d π' Q S P hm k
  obtain ⟨x, π1, e1, hm⟩ := mm_bind_some hm
  refine h pa ρ σ H0 H F π x π1 _ S P e1 fun v H01 H1 s1 P1 r1 => ?_
  cases x with
  | ins c fs ds =>
    simp only at hm
    by_cases ho : okc c f = true
    case neg => rw [if_neg ho] at hm; cases hm
    rw [if_pos ho] at hm
    obtain ⟨hz, ep⟩ := ofO_some hm
    subst ep
    simp only [Rep] at r1
    obtain ⟨a, dx, vs, rfl, g1, gl, g2⟩ := r1
    obtain ⟨w, w1, w2⟩ := flook_rep gl g2 hz
    exact ⟨a, cl c, dx, _, w, rfl, (pick_to s1.inn).trans ex_hid _ _ g1, (hok c ho).1, (hok c ho).2, w1, (k.pre P1 s1).here s1.inn P1 w2⟩
  | _ => cases hm
end
end DL
set_option Elab.async false
set_option linter.all false
set_option maxRecDepth 100000
set_option maxHeartbeats 4000000
namespace DL
open PySem L2

/-! ### isinstance -/
def bNames : List String := ["NoneType", "bool", "int", "str", "list", "tuple", "dict"]
def isA (a c : String) : Bool := a == c || (a == "bool" && c == "int")
/-- what of the text the classes 0 .. n - 1 must have -/
structure CK (K : PySem.W.Frag) (cl : Nat → Addr) (n : Nat) : Prop where
  cls : ∀ c, c < n → Cls K (cl c)
  ha : ∀ c, c < n → PySem.W.findIn K (.ref (cl c)) "__class__" = some (some (.builtin "object.__class__"))
  hn : PySem.W.specialIn K (.builtin "object.__class__") "__get__" = some (some (.builtin "getset_descriptor.__get__"))
  htk : PySem.W.takesIn K (.builtin "object.__class__") = some true
  hm : ∀ c, c < n → PySem.W.mroIn K (cl c) (.type "object") = some true
  isC : ∀ c c', c < n → c' < n → PySem.W.kitOne K (.ref (cl c)) (.ref (cl c')) = some (decide (c = c'))
  isB : ∀ a c, a ∈ bNames → c < n → PySem.W.kitOne K (.type a) (.ref (cl c)) = some false
  isT : ∀ a c, a ∈ bNames → c < n → PySem.W.kitOne K (.ref (cl c)) (.type a) = some false
theorem kitB_all : ∀ a ∈ bNames, ∀ c ∈ bNames, kitB a c = some (isA a c) := by decide +kernel
/-- a value's type: a built-in one's name, an own one's number -/
def tyD : D → Option (String ⊕ Nat)
  | .non => some (.inl "NoneType")
  | .bl _ => some (.inl "bool")
  | .int _ => some (.inl "int")
  | .str _ => some (.inl "str")
  | .lst _ => some (.inl "list")
  | .tup _ => some (.inl "tuple")
  | .dK _ _ => some (.inl "dict")
  | .dT _ _ => some (.inl "dict")
  | .ins c _ _ => some (.inr c)
  | .pen => some (.inl "dict")
  | _ => none
def D.isCls : D → Bool
  | .ty _ => true
  | .cls _ => true
  | _ => false
def isOne (n : Nat) (t : String ⊕ Nat) (x : D) : Option Bool := match t, x with
  | .inl a, .ty m => if m ∈ bNames then some (isA a m) else none
  | .inl _, .cls c => if c < n then some false else none
  | .inr c, .ty m => if c < n ∧ m ∈ bNames then some false else none
  | .inr c, .cls c' => if c < n ∧ c' < n then some (decide (c = c')) else none
  | _, _ => none
def isAny (n : Nat) (t : String ⊕ Nat) : List D → Option Bool
  | [] => some false
  | x :: xs => match isOne n t x with
    | some true => some true
    | some false => isAny n t xs
    | none => none
def okT (n : Nat) : String ⊕ Nat → Bool
  | .inl _ => true
  | .inr c => decide (c < n)
def dIsi (n : Nat) (ds : List D) : Option D := match ds with
  | [x, .tup cs] => (tyD x).bind fun t => if cs.all D.isCls ∧ okT n t then (isAny n t cs).map .bl else none
  | [x, c] => (tyD x).bind fun t => (isOne n t c).map .bl
  | _ => none
section
variable {K : PySem.W.Frag} {cl : Nat → Addr} {n : Nat}
variable {b bi bo : Bool} {ta tb tc te : TE} {ma mb mc me : Env → MM D} {t u : TT} {mt mu : Env → MM Bool} {tg : TA} {mg : Env → MM (List D)} {t1 t2 : TS} {m1 m2 : Env → MM Out}
def tyV' (cl : Nat → Addr) : String ⊕ Nat → Value
  | .inl a => .type a
  | .inr c => .ref (cl c)
theorem tyD_ok (T : CK K cl n) {pa : PA} {H0 H B : Hp} {π : Pen} {d : D} {v : V} {q : String ⊕ Nat} (P : PenAt ⟨K, cl, pa⟩ π H0 H) (e : Ex B H) (r : Rep ⟨K, cl, pa⟩ B d v) (h : tyD d = some q) (hq : ∀ c, q = .inr c → c < n) : TyX K H v (tyV' cl q) ∧ ∀ a, q = .inl a → a ∈ bNames := by
  cases d with
  | non => cases h; simp only [Rep] at r; subst r; exact ⟨.base .non, fun a e => by cases e; decide⟩
  | bl c => cases h; simp only [Rep] at r; subst r; exact ⟨.base (.bl c), fun a e => by cases e; decide⟩
  | int c => cases h; simp only [Rep] at r; subst r; exact ⟨.base (.int c), fun a e => by cases e; decide⟩
  | str c => cases h; simp only [Rep] at r; subst r; exact ⟨.base (.str c), fun a e => by cases e; decide⟩
  | lst c => cases h; simp only [Rep] at r; obtain ⟨a, vs, rfl, g, _⟩ := r; exact ⟨.base (.lst (e _ _ g)), fun a e => by cases e; decide⟩
  | tup c => cases h; simp only [Rep] at r; obtain ⟨a, vs, rfl, g, _⟩ := r; exact ⟨.base (.tup (e _ _ g)), fun a e => by cases e; decide⟩
  | dK c => cases h; simp only [Rep] at r; obtain ⟨a, vs, rfl, g, _⟩ := r; exact ⟨.base (.dK (e _ _ g)), fun a e => by cases e; decide⟩
  | dT c => cases h; simp only [Rep] at r; obtain ⟨a, vs, rfl, g, _⟩ := r; exact ⟨.base (.dT (e _ _ g)), fun a e => by cases e; decide⟩
  | ins c fs ds =>
    cases h; simp only [Rep] at r; obtain ⟨a, dx, vs, rfl, g, _⟩ := r
    have hc := hq c rfl
    exact ⟨.base (.ins (e _ _ g) (T.cls c hc) (T.ha c hc) T.hn T.htk (T.hm c hc)), fun a e => by cases e⟩
  | pen => cases h; simp only [Rep] at r; subst r; exact ⟨.base (.dK P.at_), fun a e => by cases e; decide⟩
  | ty _ => cases h
  | cls _ => cases h
theorem isOne_ok (T : CK K cl n) {pa : PA} {B : Hp} {q : String ⊕ Nat} {x : D} {c : Bool} {v : V} (hq : ∀ a, q = .inl a → a ∈ bNames) (h : isOne n q x = some c) (r : Rep ⟨K, cl, pa⟩ B x v) :
    ∃ w, ClsV v w ∧ PySem.W.kitOne K (tyV' cl q) w = some c ∧ ∀ k, q = .inr k → k < n := by
  cases q with
  | inl a =>
    have ha := hq a rfl
    cases x with
    | ty m =>
      simp only [isOne] at h
      by_cases hm : m ∈ bNames
      case neg => rw [if_neg hm] at h; cases h
      rw [if_pos hm] at h; cases h
      simp only [Rep] at r; subst r
      exact ⟨_, .ty m, kit_ty (kitB_all a ha m hm), fun k e => by cases e⟩
    | cls k =>
      simp only [isOne] at h
      by_cases hm : k < n
      case neg => rw [if_neg hm] at h; cases h
      rw [if_pos hm] at h; cases h
      simp only [Rep] at r; subst r
      exact ⟨_, .own _, T.isB a k ha hm, fun k e => by cases e⟩
    | _ => cases h
  | inr k =>
    cases x with
    | ty m =>
      simp only [isOne] at h
      by_cases hm : k < n ∧ m ∈ bNames
      case neg => rw [if_neg hm] at h; cases h
      rw [if_pos hm] at h; cases h
      simp only [Rep] at r; subst r
      exact ⟨_, .ty m, T.isT m k hm.2 hm.1, fun k e => by cases e; exact hm.1⟩
    | cls j =>
      simp only [isOne] at h
      by_cases hm : k < n ∧ j < n
      case neg => rw [if_neg hm] at h; cases h
      rw [if_pos hm] at h; cases h
      simp only [Rep] at r; subst r
      exact ⟨_, .own _, T.isC k j hm.1 hm.2, fun k e => by cases e; exact hm.1⟩
    | _ => cases h
theorem cls_all {pa : PA} {B : Hp} : ∀ {xs : List D} {vs : List V}, Reps ⟨K, cl, pa⟩ B xs vs → (∀ x ∈ xs, x.isCls = true) → ∃ ws, Paired ClsV vs ws
  | [], vs, r, _ => by
    simp only [Reps] at r; subst r
    exact ⟨[], .nil⟩
  | x :: xs, vs, r, hx => by
    obtain ⟨v, rr, e, r1, r2⟩ := r.cases
    subst e
    obtain ⟨ws, hw⟩ := cls_all r2 fun z hz => hx z (List.mem_cons_of_mem _ hz)
    have h1 := hx x (by simp)
    cases x with
    | ty w => simp only [Rep] at r1; subst r1; exact ⟨_, .cons (.ty _) hw⟩
    | cls k => simp only [Rep] at r1; subst r1; exact ⟨_, .cons (.own _) hw⟩
    | _ => cases h1
theorem isAny_ok (T : CK K cl n) {pa : PA} {B : Hp} {q : String ⊕ Nat} (hq : ∀ a, q = .inl a → a ∈ bNames) : ∀ {xs : List D} {vs : List V} {c : Bool}, isAny n q xs = some c → Reps ⟨K, cl, pa⟩ B xs vs → (∀ x ∈ xs, x.isCls = true) →
    ∃ ws, PySem.W.kitAny K (tyV' cl q) ws = some c ∧ Paired ClsV vs ws
  | [], vs, c, h, r, _ => by
    simp only [Reps] at r; subst r
    cases h
    exact ⟨[], rfl, .nil⟩
  | x :: xs, vs, c, h, r, hx => by
    obtain ⟨v, rr, e, r1, r2⟩ := r.cases
    subst e
    simp only [isAny] at h
    cases e : isOne n q x with
    | none => rw [e] at h; cases h
    | some y =>
      obtain ⟨w, w1, w2, _⟩ := isOne_ok T hq e r1
      rw [e] at h
      cases y with
      | true =>
        cases h
        obtain ⟨ws, hp⟩ := cls_all r2 fun z hz => hx z (List.mem_cons_of_mem _ hz)
        exact ⟨w :: ws, kitAny_cons w2 (fun z => by cases z) fun _ => rfl, .cons w1 hp⟩
      | false =>
        obtain ⟨ws, g1, g2⟩ := isAny_ok T hq h r2 fun z hz => hx z (List.mem_cons_of_mem _ hz)
        exact ⟨w :: ws, kitAny_cons w2 (fun _ => g1) (fun z => by cases z), .cons w1 g2⟩
def rIsiA (K : PySem.W.Frag) : List V → Hp → VK → Prop := fun xs H Q => rIsi K xs H Q ∨ rIsiT K xs H Q
theorem call_isiA {X : Cx} : CallR X (.builtin "isinstance") (rIsiA X.K) := CallR.or call_isi call_isiT
theorem isOne_lt {k : Nat} {c : D} {y : Bool} (h : isOne n (.inr k) c = some y) : k < n := by
  cases c with
  | ty m =>
    simp only [isOne] at h
    by_cases z : k < n ∧ m ∈ bNames
    · exact z.1
    · rw [if_neg z] at h; cases h
  | cls m =>
    simp only [isOne] at h
    by_cases z : k < n ∧ m < n
    · exact z.1
    · rw [if_neg z] at h; cases h
  | _ => cases h
theorem rc_isi1 (T : CK K cl n) {pa : PA} {H0 H : Hp} {π : Pen} {vs : List V} {x c d : D} {Q : VK} (i : Ex H0 (hid ⟨K, cl, pa⟩ H)) (P : PenAt ⟨K, cl, pa⟩ π H0 H) (rs : Reps ⟨K, cl, pa⟩ (pick bi H0 (hid ⟨K, cl, pa⟩ H)) [x, c] vs)
    (hh : ((tyD x).bind fun t => (isOne n t c).map D.bl) = some d) (k : Kont ⟨K, cl, pa⟩ bo H0 H d π Q) : rIsiA K vs H Q := by
  have e0 := (pick_to (b := bi) i).trans ex_hid
  obtain ⟨v, r, rfl, r1, r2⟩ := rs.cases
  obtain ⟨u, rfl, r3⟩ := one_rep r2
  cases e1 : tyD x with
  | none => rw [e1] at hh; cases hh
  | some q =>
    rw [e1] at hh
    cases e2 : isOne n q c with
    | none => simp [e2] at hh
    | some y =>
      simp [e2] at hh
      subst hh
      have hq : ∀ k, q = .inr k → k < n := fun k e => by subst e; exact isOne_lt e2
      obtain ⟨ty, hb⟩ := tyD_ok T P e0 r1 e1 hq
      obtain ⟨w, w1, w2, _⟩ := isOne_ok T hb e2 r3
      exact Or.inl ⟨v, u, _, w, y, rfl, w1, ty, w2, k.here i P (by simp only [Rep])⟩
theorem rc_isi (T : CK K cl n) : Rck K cl bi bo (rIsiA K) (dIsi n) := by
  intro pa H0 H π vs ds d Q i P rs h k
  have e0 := (pick_to (b := bi) i).trans ex_hid
  match ds, h, rs with
  | [x, .tup cs], h, rs =>
    simp only [dIsi] at h
    obtain ⟨v, r, rfl, r1, r2⟩ := rs.cases
    obtain ⟨u, rfl, r3⟩ := one_rep r2
    simp only [Rep] at r3
    obtain ⟨a, ws, rfl, g1, g2⟩ := r3
    cases e1 : tyD x with
    | none => rw [e1] at h; cases h
    | some q =>
      rw [e1] at h
      simp only [Option.bind_some] at h
      by_cases z : cs.all D.isCls ∧ okT n q
      case neg => rw [if_neg z] at h; cases h
      rw [if_pos z] at h
      cases e2 : isAny n q cs with
      | none => rw [e2] at h; cases h
      | some y =>
        rw [e2] at h
        cases h
        obtain ⟨ty, hb⟩ := tyD_ok T P e0 r1 e1 fun k e => by
          subst e
          simpa [okT] using z.2
        obtain ⟨us, w1, w2⟩ := isAny_ok T hb e2 g2 fun x hx => List.all_eq_true.mp z.1 x hx
        exact Or.inr ⟨v, a, ws, _, us, y, rfl, e0 _ _ g1, w2, ty, w1, k.here i P (by simp only [Rep])⟩
  | [x, .non], h, rs => exact rc_isi1 T i P rs h k
  | [x, .bl _], h, rs => exact rc_isi1 T i P rs h k
  | [x, .int _], h, rs => exact rc_isi1 T i P rs h k
  | [x, .str _], h, rs => exact rc_isi1 T i P rs h k
  | [x, .lst _], h, rs => exact rc_isi1 T i P rs h k
  | [x, .dK _ _], h, rs => exact rc_isi1 T i P rs h k
  | [x, .dT _ _], h, rs => exact rc_isi1 T i P rs h k
  | [x, .ins _ _ _], h, rs => exact rc_isi1 T i P rs h k
  | [x, .pen], h, rs => exact rc_isi1 T i P rs h k
  | [x, .ty _], h, rs => exact rc_isi1 T i P rs h k
  | [x, .cls _], h, rs => exact rc_isi1 T i P rs h k
end
end DL
set_option Elab.async false
set_option linter.all false
set_option maxRecDepth 100000
set_option maxHeartbeats 4000000
namespace DL
open PySem L2 PySem.Spec

/-! ### t[::-1] of a tuple, a list -/
section
variable {prog : Program} {w : World} {A : Around} {E : Value → Shared → Prop} {s : Shared}
theorem adj_back (n : Nat) : Builtin.Slice.sliceAdjust none none (-1) (n : Int) = ((n : Int) - 1, -1) := rfl
theorem plc_back (n : Nat) : Builtin.Slice.slicePlaces ((n : Int) - 1) (-1) (-1) = n := by
  unfold Builtin.Slice.slicePlaces
  rw [if_neg (by decide)]
  by_cases h : (n : Int) - 1 > -1
  · rw [if_pos h]; have : (-(-1 : Int)) = 1 := rfl; rw [this, Int.ediv_one]; omega
  · rw [if_neg h]; omega
theorem pick_back (xs : Array Value) : ((List.range xs.size).filterMap fun (m : Nat) => xs[((xs.size : Int) - 1 + (m : Int) * -1).toNat]?).toArray = xs.toList.reverse.toArray := by
  have e : (fun (m : Nat) => xs[((xs.size : Int) - 1 + (m : Int) * -1).toNat]?) = (fun j => xs[j]?) ∘ fun m => xs.size - 1 - m := by
    funext m
    show xs[((xs.size : Int) - 1 + (m : Int) * -1).toNat]? = xs[xs.size - 1 - m]?
    have : ((xs.size : Int) - 1 + (m : Int) * -1).toNat = xs.size - 1 - m := by omega
    rw [this]
  rw [e, ← List.filterMap_map, PySem.W.krv_range, List.filterMap_reverse, PySem.W.krv_all]
theorem applied_back {sl : Addr} {vl vu vs : Value} {n : Nat} {Q : Int × Int × Nat → Shared → Prop} (hs : s.heap.IsSliceOf sl vl vu vs) (pl : IsPart vl none) (pu : IsPart vu none) (ps : IsPart vs (some (-1)))
    (h : Q ((n : Int) - 1, -1, n) s) : wpAny (model prog w) A (Builtin.Slice.sliceApplied (.ref sl) (pure (n : Int))) Q E s := by
  obtain ⟨os, hos, hcs, hds⟩ := id hs
  unfold Builtin.Slice.sliceApplied Builtin.Slice.sliceFields
  refine wpAny_bind (wpAny_bind (wpAny_field hos hds (x := vl) rfl (wpAny_bind (wpAny_field hos hds (x := vu) rfl (wpAny_bind (wpAny_field hos hds (x := vs) rfl (wpAny_pure ?_)))))))
  refine wpAny_bind (HT.slicePart_ ps ?_)
  show wpAny _ _ (if ((-1 : Int) == 0) = true then _ else _) _ _ s
  rw [if_neg (by decide)]
  refine wpAny_bind (HT.slicePart_ pl (wpAny_bind (HT.slicePart_ pu (wpAny_bind (wpAny_pure ?_)))))
  show wpAny _ _ (match Builtin.Slice.sliceAdjust none none (-1) (n : Int) with | (lo, hi) => pure (lo, (-1 : Int), Builtin.Slice.slicePlaces lo hi (-1))) _ _ s
  rw [adj_back n]
  show wpAny _ _ (pure ((n : Int) - 1, (-1 : Int), Builtin.Slice.slicePlaces ((n : Int) - 1) (-1) (-1))) _ _ s
  rw [plc_back]
  exact wpAny_pure h
theorem item_back {t sl : Addr} {xs : Array Value} {vl vu vs : Value} {Q : Value → Shared → Prop} (ht : PyProof.Rows.IsTup s.heap t xs) (hs : s.heap.IsSliceOf sl vl vu vs) (pl : IsPart vl none) (pu : IsPart vu none) (ps : IsPart vs (some (-1)))
    (h : Q (.ref s.heap.objs.size) { s with heap := s.heap.push { cls := .type "tuple", data := .seq xs.toList.reverse.toArray } }) (hsz : xs.size ≤ sizeLine) : wpAny (model prog w) A (getItem (.ref t) (.ref sl)) Q E s := by
  have hok : sizeOk (.seq xs.toList.reverse.toArray) := by
    show xs.toList.reverse.toArray.size ≤ sizeLine
    simpa using hsz
  obtain ⟨os, hos, hcs, hds⟩ := id hs
  have hTs : s.TypeIs (.ref sl) "slice" := ⟨os, hos, hcs⟩
  unfold getItem
  try with_reducible refine wpAny_holding ?_
  first | refine wpAny_bind (wpAny_pure ?_) | skip
  refine wpAny_bind (wpAny_sequenceKey ht.typeIs (by decide) ?_)
  refine wpAny_bind (wpAny_callSpecial?_slot (name := Str.ofString "__getitem__") ht.typeIs PyProof.Rows.slot_tuple_getitem
    (wpAny_call_entry PyProof.Rows.slot_tuple_getitem ht.typeIs PyProof.Rows.entry_tuple_getitem ?_ (PyProof.Rows.args_tuple_getitem _ _)))
  show wpAny _ _ (Builtin.Tuple.tupleItemsOf (.ref t) >>= _) _ _ s
  refine wpAny_bind (PyProof.Rows.tupleItemsOf_ ht ?_)
  refine wpAny_bind (wpAny_typeOf hTs ?_)
  rw [if_pos (by decide)]
  refine wpAny_bind (applied_back hs pl pu ps ?_)
  have hno : ¬ ((((xs.size : Int) - 1 == 0) && ((-1 : Int) == 1) && (xs.size == xs.size)) = true) := by
    intro q
    rw [Bool.and_eq_true, Bool.and_eq_true] at q
    exact absurd q.1.2 (by decide)
  show wpAny _ _ (if (((xs.size : Int) - 1 == 0) && ((-1 : Int) == 1) && (xs.size == xs.size)) = true then _ else _) _ _ s
  rw [if_neg hno, pick_back]
  first
    | exact wpAny_bind (m := Builtin.Tuple.tupleExact _) (wpAny_newObj_type (wpAny_pure ⟨_, rfl, wpAny_pure h⟩) hok)
    | exact wpAny_bind (m := Builtin.Tuple.tupleExact _) (wpAny_newObj_type (wpAny_bind (wpAny_pure (wpAny_pure ⟨_, rfl, wpAny_pure h⟩))) hok)
    | exact wpAny_bind (wpAny_bind (m := Builtin.Tuple.tupleExact _) (wpAny_newObj_type (wpAny_pure (wpAny_pure ⟨_, rfl, wpAny_pure h⟩)) hok))
    | exact wpAny_bind (wpAny_bind (m := Builtin.Tuple.tupleExact _) (wpAny_newObj_type (wpAny_pure ⟨_, rfl, wpAny_pure h⟩) hok))
end
def tBack (K : PySem.W.Frag) (te : TE) : TE := fun σ H Q => te σ H fun x H1 => ∃ a xs, x = .ref a ∧ ((SqL K H1 a xs ∧ ∀ p, H1 p = none → Q (.ref p) (upd H1 p (.lst xs.reverse))) ∨ (SqT K H1 a xs ∧ ∀ p, H1 p = none → Q (.ref p) (upd H1 p (.tup xs.reverse))))
theorem pe_back {X : Cx} {e : Expr} {te : TE} {k : Nat} {p1 p2 p3 pos : Pos} (he : PE X e te) : PE X (.Subscript e (.Slice none none (some (.UnaryOp .USub (.Constant (.int 1) k p1) p2)) p3) pos) (tBack X.K te) := by
  refine ⟨fun pins s σ H Q I h => ?_⟩
  refine PyProof.Rows.Subscript_ (thn (he.run pins s σ H _ I h) fun v s1 hh => ?_)
  obtain ⟨x, H1, I1, r1, a, xs, ex, q⟩ := hh
  subst ex
  cases r1
  have hst : PO X (some (.UnaryOp .USub (.Constant (.int 1) k p1) p2)) (tPart (tUn (rU fun i => .int (-i)) (tC (.int 1)))) := po_some (pe_un un_neg pe_int)
  refine wpAny_Slice (thn (po_none.run pins s1 σ H1 (fun o H2 => o = none ∧ H2 = H1) I1 ⟨rfl, rfl⟩) fun vl s2 h2 => ?_)
  obtain ⟨l, H2, I2, pl, el, e2⟩ := h2
  subst el e2
  refine thn (po_none.run pins s2 σ H2 (fun o H3 => o = none ∧ H3 = H2) I2 ⟨rfl, rfl⟩) fun vu s3 h3 => ?_
  obtain ⟨u, H3, I3, pu, eu, e3⟩ := h3
  subst eu e3
  refine thn (hst.run pins s3 σ H3 (fun o H4 => o = some (-1) ∧ H4 = H3) I3 ⟨1, rfl, -1, rfl, rfl, rfl⟩) fun vs s4 h4 => ?_
  obtain ⟨o, H4, I4, ps, eo, e4⟩ := h4
  subst eo e4
  have I5 : Inv X pins σ H4 { s4 with heap := s4.heap.push { cls := .type "slice", data := .fields #[vl, vu, vs] } } := I4.kept (t' := s4.toks) fun b ob q => Heap.get?_push_of_some _ q
  show wpAny (model X.prog X.w) X.A (PyProof.Rows.subscriptTail e (.Slice none none (some (.UnaryOp .USub (.Constant (.int 1) k p1) p2)) p3) (.ref a) (.ref s4.heap.objs.size)) (EP X pins σ Q) X.xe { s4 with heap := s4.heap.push { cls := .type "slice", data := .fields #[vl, vu, vs] } }
  rcases q with ⟨hx, q⟩ | ⟨hx, q⟩
  · obtain ⟨its, r, ht, hz⟩ := I5.list hx
    have hlen := r.length
    refine PyProof.Rows.tail_any (ops := [.ref a, .ref s4.heap.objs.size]) ht.isList.typeIs (PySem.slot_list_getitem.lookup) ?_ (by with_unfolding_all rfl)
    refine wpAny_getItem_list_slice ht.isList (Heap.IsSliceOf.new _ vl vu vs) pl pu ps (by decide) ?_ (by rw [List.size_toArray]; omega)
    rw [PySem.W.krv_pick]
    refine ⟨.ref _, _, I5.laid (t' := s4.toks) (o := .lst xs.reverse) (fun b ob q => Heap.get?_push_of_some _ q) (Nat.le_refl _) ?_, rfl, q _ (I5.hok.fresh (Nat.le_refl _))⟩
    exact ⟨by rw [List.length_reverse]; exact hz, _, 0, r.reverse, Heap.get?_push_size _ rfl⟩
  · obtain ⟨its, r, ht, hz⟩ := I5.tuple hx
    have hlen := r.length
    refine PyProof.Rows.tail_any (ops := [.ref a, .ref s4.heap.objs.size]) ht.typeIs (PyProof.Rows.slot_tuple_getitem.lookup) ?_ (by with_unfolding_all rfl)
    refine item_back ht (Heap.IsSliceOf.new _ vl vu vs) pl pu ps ?_ (by rw [List.size_toArray]; omega)
    refine ⟨.ref _, _, I5.laid (t' := s4.toks) (o := .tup xs.reverse) (fun b ob q => Heap.get?_push_of_some _ q) (Nat.le_refl _) ?_, rfl, q _ (I5.hok.fresh (Nat.le_refl _))⟩
    exact ⟨by rw [List.length_reverse]; exact hz, its.reverse, r.reverse, PyProof.Rows.IsTup.new _ _⟩
section
variable {K : PySem.W.Frag} {cl : Nat → Addr} {b : Bool} {te : TE} {me : Env → MM D}
theorem Reps.rev {G : Gm} {H : Hp} : ∀ {ds : List D} {vs : List V}, Reps G H ds vs → Reps G H ds.reverse vs.reverse
  | [], vs, h => by simp only [Reps] at h; subst h; exact .nil
  | d :: ds, vs, h => by
    obtain ⟨v, r, q, h1, h2⟩ := h.cases
    subst q
    rw [List.reverse_cons, List.reverse_cons]
    exact (Reps.rev h2).append (.cons h1 .nil)
def eBack (me : Env → MM D) : Env → MM D := fun ρ => do
  let d ← me ρ
  match d with
  | .lst xs => pure (.lst xs.reverse)
  | .tup xs => pure (.tup xs.reverse)
  | _ => fail
theorem rf_back (h : Rf K cl true te me) : Rf K cl b (tBack K te) (eBack me) := by
  intro pa ρ σ H0 H F π d π' Q S P hm k
  obtain ⟨x, π1, e1, hm⟩ := mm_bind_some hm
  refine h pa ρ σ H0 H F π x π1 _ S P e1 fun v H01 H1 s1 P1 r1 => ?_
  cases x with
  | lst xs =>
    cases hm
    simp only [Rep, pick, if_true] at r1
    obtain ⟨a, ws, rfl, g1, g2⟩ := r1
    refine ⟨a, ws, rfl, Or.inl ⟨Or.inl (Or.inl (s1.inn.trans ex_hid _ _ g1)), fun p hp => ?_⟩⟩
    obtain ⟨s2, P2, g4⟩ := alloc (o := .lst ws.reverse) s1.inn P1 hp
    refine k (.ref p) _ _ (s1.trans (fun _ => P1.pa) s2) P2 ?_
    simp only [Rep]
    exact ⟨p, _, rfl, g4 b, Reps.mono ((pick_of0 s1.inn).trans (pick_mono s2)) g2.rev⟩
  | tup xs =>
    cases hm
    simp only [Rep, pick, if_true] at r1
    obtain ⟨a, ws, rfl, g1, g2⟩ := r1
    refine ⟨a, ws, rfl, Or.inr ⟨Or.inl (Or.inl (s1.inn.trans ex_hid _ _ g1)), fun p hp => ?_⟩⟩
    obtain ⟨s2, P2, g4⟩ := alloc (o := .tup ws.reverse) s1.inn P1 hp
    refine k (.ref p) _ _ (s1.trans (fun _ => P1.pa) s2) P2 ?_
    simp only [Rep]
    exact ⟨p, _, rfl, g4 b, Reps.mono ((pick_of0 s1.inn).trans (pick_mono s2)) g2.rev⟩
  | _ => cases hm
end
end DL
set_option Elab.async false
set_option linter.all false
set_option maxRecDepth 100000
set_option maxHeartbeats 4000000
namespace DL
open PySem L2

section
variable {K : PySem.W.Frag} {cl : Nat → Addr}
variable {b bi bo : Bool} {ta tb tc te to : TE} {ma mb mc me : Env → MM D} {t u : TT} {mt mu : Env → MM Bool} {tg : TA} {mg : Env → MM (List D)} {t1 t2 : TS} {m1 m2 : Env → MM Out}

/-! ### x if t else y of fresh things -/
def oIf (mt : Env → MM Bool) (ma mb : Env → MM M) : Env → MM M := fun ρ => do
  let c ← mt ρ
  if c then ma ρ else mb ρ
theorem ro_if {na nb : Env → MM M} (h : Rt K cl t mt) (h1 : Ro K cl ta na) (h2 : Ro K cl tb nb) : Ro K cl (tIf t ta tb) (oIf mt na nb) := by
  intro pa ρ σ H0 H F π x π' Q S P hm k
  obtain ⟨c, π1, e1, hm⟩ := mm_bind_some hm
  refine h pa ρ σ H0 H F π c π1 _ S P e1 fun H01 H1 s1 P1 => ?_
  have k' : ∀ v H0' H' Fn, Pure ⟨K, cl, pa⟩ H01 H1 H0' H' → PenAt ⟨K, cl, pa⟩ π' H0' H' → RepM ⟨K, cl, pa⟩ H0' H' x v Fn → Fn.Nodup → (∀ b ∈ Fn, H1 b = none) → Q v H' := fun v H0' H' Fn s2 P2 r nd fr =>
    k v H0' H' Fn (s1.trans (fun _ => P1.pa) s2) P2 r nd fun c hc => none_back (G := ⟨K, cl, pa⟩) s1 P1 (fr c hc)
  cases c with
  | true => exact h1 pa ρ σ H01 H1 F π1 x π' Q (S.pure s1) P1 hm k'
  | false => exact h2 pa ρ σ H01 H1 F π1 x π' Q (S.pure s1) P1 hm k'

/-! ### list(range(..)) -/
def oRg1 (me : Env → MM D) : Env → MM M := fun ρ => do
  let d ← me ρ
  match d with
  | .int n => if -(2 ^ 62) ≤ n ∧ n ≤ 100000 then pure (.lst ((rng 0 n.toNat).map .leaf)) else fail
  | _ => fail
def oRg2 (me mb : Env → MM D) : Env → MM M := fun ρ => do
  let d ← me ρ
  let e ← mb ρ
  match d, e with
  | .int i, .int n => if (-(2 ^ 60) ≤ i ∧ i ≤ 2 ^ 60) ∧ (-(2 ^ 60) ≤ n ∧ n ≤ 2 ^ 60) ∧ (n - i).toNat ≤ 100000 then pure (.lst ((rng i (n - i).toNat).map .leaf)) else fail
  | _, _ => fail
theorem reps_rg {G : Gm} {H : Hp} (a : Int) : ∀ l : List Nat, Reps G H (l.map fun (i : Nat) => D.int (a + (i : Int))) (l.map fun (i : Nat) => V.int (a + (i : Int)))
  | [] => .nil
  | n :: l => .cons (by simp only [Rep]) (reps_rg a l)
theorem rg_core {pa : PA} {H0 H : Hp} {π : Pen} {a c : Int} {Q : VK} (i : Ex H0 (hid ⟨K, cl, pa⟩ H)) (P : PenAt ⟨K, cl, pa⟩ π H0 H)
    (k : ∀ v H0' H' Fn, Pure ⟨K, cl, pa⟩ H0 H H0' H' → PenAt ⟨K, cl, pa⟩ π H0' H' → RepM ⟨K, cl, pa⟩ H0' H' (.lst ((rng a (c - a).toNat).map .leaf)) v Fn → Fn.Nodup → (∀ b ∈ Fn, H b = none) → Q v H') :
    ∀ q, H q = none → Q (.ref q) (upd H q (.lst (rgV a c))) := fun p hp => by
  obtain ⟨s2, P2⟩ := allocO (o := .lst (rgV a c)) i P hp
  refine k (.ref p) _ _ [p] s2 P2 ?_ (by simp) (by simpa using hp)
  simp only [RepM]
  exact ⟨p, _, [], rfl, rfl, free0 i hp, ne_pa P hp, upd_same, leafs (reps_rg a _)⟩
theorem ro_rg1 (h : Rf K cl true te me) : Ro K cl (tLstRg (tRg1 te)) (oRg1 me) := by
  intro pa ρ σ H0 H F π x π' Q S P hm k
  obtain ⟨d, π1, e1, hm⟩ := mm_bind_some hm
  refine h pa ρ σ H0 H F π d π1 _ S P e1 fun v H01 H1 s1 P1 r1 => ?_
  cases d with
  | int n =>
    simp only at hm
    by_cases c : -(2 ^ 62) ≤ n ∧ n ≤ 100000
    case neg => rw [if_neg c] at hm; cases hm
    rw [if_pos c] at hm
    cases hm
    simp only [Rep] at r1
    refine ⟨n, r1, ⟨by omega, by omega, c.1, by omega, by omega⟩, rg_core s1.inn P1 fun v H0' H' Fn s2 P2 r nd fr => ?_⟩
    refine k v H0' H' Fn (s1.trans (fun _ => P1.pa) s2) P2 (by simpa using r) nd fun c hc => none_back (G := ⟨K, cl, pa⟩) s1 P1 (fr c hc)
  | _ => cases hm
theorem ro_rg2 (h : Rf K cl true ta ma) (h' : Rf K cl true tb mb) : Ro K cl (tLstRg (tRg2 ta tb)) (oRg2 ma mb) := by
  intro pa ρ σ H0 H F π x π' Q S P hm k
  obtain ⟨d, π1, e1, hm⟩ := mm_bind_some hm
  obtain ⟨e, π2, e2, hm⟩ := mm_bind_some hm
  refine h pa ρ σ H0 H F π d π1 _ S P e1 fun v H01 H1 s1 P1 r1 => ?_
  refine h' pa ρ σ H01 H1 F π1 e π2 _ (S.pure s1) P1 e2 fun w H02 H2 s2 P2 r2 => ?_
  have s12 := s1.trans (fun _ => P1.pa) s2
  cases d with
  | int i =>
    cases e with
    | int n =>
      simp only at hm
      by_cases c : (-(2 ^ 60) ≤ i ∧ i ≤ 2 ^ 60) ∧ (-(2 ^ 60) ≤ n ∧ n ≤ 2 ^ 60) ∧ (n - i).toNat ≤ 100000
      case neg => rw [if_neg c] at hm; cases hm
      rw [if_pos c] at hm
      cases hm
      simp only [Rep] at r1 r2
      refine ⟨i, n, r1, r2, ⟨by omega, by omega, by omega, by omega, by omega⟩, rg_core s12.inn P2 fun v H0' H' Fn s3 P3 r nd fr => ?_⟩
      exact k v H0' H' Fn (s12.trans (fun _ => P2.pa) s3) P3 r nd fun c hc => none_back (G := ⟨K, cl, pa⟩) s12 P2 (fr c hc)
    | _ => cases hm
  | _ => cases hm

/-! ### list(x) of a dict too -/
def kD : Key → D
  | .inl i => .int i
  | .inr s => .str s
theorem reps_keys {G : Gm} {H : Hp} : ∀ {ks : List Key} {vs : List V}, ks.length = vs.length → Reps G H (ks.map kD) ((ks.zip vs).map fun kv => kV kv.1)
  | [], _, _ => .nil
  | k :: ks, [], h => by simp at h
  | k :: ks, v :: vs, h => by
    simp only [List.zip_cons_cons, List.map_cons]
    refine .cons ?_ (reps_keys (by simpa using h))
    cases k <;> simp only [kD, Rep] <;> rfl
def rListA (K : PySem.W.Frag) : List V → Hp → VK → Prop := fun xs H Q => (∃ p ys, xs = [.ref p] ∧ (SqL K H p ys ∨ SqT K H p ys) ∧ ∀ l, H l = none → Q (.ref l) (upd H l (.lst ys))) ∨ rListD xs H Q
theorem call_listA {X : Cx} (hc : X.calm = true) : CallR X (.type "list") (rListA X.K) := CallR.or call_list_of (call_list_dK hc)
def oListA (mg : Env → MM (List D)) : Env → MM M := fun ρ => do
  let ds ← mg ρ
  match ds with
  | [.lst xs] => pure (.lst (xs.map .leaf))
  | [.tup xs] => pure (.lst (xs.map .leaf))
  | [.dK ks _] => pure (.lst ((ks.map kD).map .leaf))
  | _ => fail
theorem ro_listA (h : Ra K cl true tg mg) : Ro K cl (tCB (rListA K) tg) (oListA mg) := by
  intro pa ρ σ H0 H F π x π' Q S P hm k
  obtain ⟨ds, π1, e1, hm⟩ := mm_bind_some hm
  refine h pa ρ σ H0 H F π ds π1 _ S P e1 fun vs H01 H1 s1 P1 r1 => ?_
  have fin : ∀ {p : Addr} {xs : List D} {ws : List V}, Reps ⟨K, cl, pa⟩ H01 xs ws → H1 p = none → x = .lst (xs.map .leaf) → π1 = π' → Q (.ref p) (upd H1 p (.lst ws)) := fun {p xs ws} r hp ex ep => by
    subst ex ep
    obtain ⟨s2, P2⟩ := allocO (o := .lst ws) s1.inn P1 hp
    refine k (.ref p) _ _ [p] (s1.trans (fun _ => P1.pa) s2) P2 ?_ (by simp) (by simpa using none_back (G := ⟨K, cl, pa⟩) s1 P1 hp)
    simp only [RepM]
    exact ⟨p, _, [], rfl, rfl, free0 s1.inn hp, ne_pa P1 hp, upd_same, leafs r⟩
  match ds, hm, r1 with
  | [.lst xs], hm, r1 =>
    cases hm
    obtain ⟨v, rfl, r⟩ := one_rep r1
    simp only [Rep, pick, if_true] at r
    obtain ⟨a, ws, rfl, g1, g2⟩ := r
    exact Or.inl ⟨a, ws, rfl, Or.inl (Or.inl (Or.inl (s1.inn.trans ex_hid _ _ g1))), fun l hl => fin g2 hl rfl rfl⟩
  | [.tup xs], hm, r1 =>
    cases hm
    obtain ⟨v, rfl, r⟩ := one_rep r1
    simp only [Rep, pick, if_true] at r
    obtain ⟨a, ws, rfl, g1, g2⟩ := r
    exact Or.inl ⟨a, ws, rfl, Or.inr (Or.inl (Or.inl (s1.inn.trans ex_hid _ _ g1))), fun l hl => fin g2 hl rfl rfl⟩
  | [.dK ks xs], hm, r1 =>
    cases hm
    obtain ⟨v, rfl, r⟩ := one_rep r1
    simp only [Rep, pick, if_true] at r
    obtain ⟨a, ws, rfl, g1, gl, g2⟩ := r
    exact Or.inr ⟨a, _, rfl, s1.inn.trans ex_hid _ _ g1, fun l hl => fin (reps_keys gl) hl rfl rfl⟩

/-! ### x, y = e, f with owned things -/
def Sl.ofM : M → Sl
  | .leaf d => .sh d
  | m => .ow m
theorem SlOk.ofM {G : Gm} {H0 H : Hp} {m : M} {v : V} {F : List Addr} (h : RepM G H0 H m v F) : SlOk G H0 H (some v) F (Sl.ofM m) := by
  cases m with
  | leaf d =>
    simp only [RepM] at h
    exact ⟨h.2, v, rfl, h.1⟩
  | _ => exact ⟨v, rfl, h⟩
def sParO (i j : Nat) (mr : Env → MM (List M)) : Env → MM Out := fun ρ => do
  let xs ← mr ρ
  match xs with
  | [d, e] => pure (.next ((ρ.set i (Sl.ofM d)).set j (Sl.ofM e)))
  | _ => fail
theorem rs_parO {i j : Nat} {mr : Env → MM (List M)} (h : Rao K cl tg mr) : Rs K cl (tPar i j tg) (sParO i j mr) := by
  intro pa ρ σ H0 H F π o π' E S P hm k
  obtain ⟨xs, π1, e1, hm⟩ := mm_bind_some hm
  refine h pa ρ σ H0 H F π xs π1 _ S P e1 fun vs H01 H1 Fn s1 P1 r1 nd fr => ?_
  have hF : ∀ c ∈ F, H c ≠ none := fun c hc => (S.env.free c hc).2.2
  match xs, hm, r1 with
  | [d, e], hm, r1 =>
    cases hm
    simp only [RepMs] at r1
    obtain ⟨v, r, F1, F2, rfl, rfl, q1, w, r', F3, F4, rfl, rfl, q2, rfl, rfl⟩ := r1
    rw [List.append_nil] at nd fr
    have nd' := List.nodup_append.mp nd
    obtain ⟨F', S', f'⟩ := (S.pure s1).set i (x := some v) (Fs := F1) (s := Sl.ofM d) (.ofM q1) nd'.1 (fun c h1 h2 => hF c h2 (fr c (List.mem_append.mpr (.inl h1))))
    obtain ⟨F'', S'', f''⟩ := S'.set j (x := some w) (Fs := F3) (s := Sl.ofM e) (.ofM q2) nd'.2.1 (fun c h1 h2 => by
      rcases f' c h2 with z | z
      · exact hF c z (fr c (List.mem_append.mpr (.inr h1)))
      · exact nd'.2.2 c z c h1 rfl)
    refine ⟨v, w, rfl, k _ H01 H1 F'' S'' P1 (step_sub (Fn := F1 ++ F3) s1 (fun c hc => ?_) fr)⟩
    rcases f'' c hc with z | z
    · rcases f' c z with z | z
      · exact Or.inl z
      · exact Or.inr (List.mem_append.mpr (.inl z))
    · exact Or.inr (List.mem_append.mpr (.inr z))
  | [], hm, _ => cases hm
  | [_], hm, _ => cases hm
  | _ :: _ :: _ :: _, hm, _ => cases hm
end
end DL
set_option Elab.async false
set_option linter.all false
set_option maxRecDepth 100000
set_option maxHeartbeats 4000000
namespace DL
open PySem L2

section
variable {K : PySem.W.Frag} {cl : Nat → Addr}
variable {b bi bo : Bool} {ta tb tc te to : TE} {ma mb mc me : Env → MM D} {t u : TT} {mt mu : Env → MM Bool} {tg : TA} {mg : Env → MM (List D)} {t1 t2 : TS} {m1 m2 : Env → MM Out}

/-! ### pop -/
/-- an owned list of leafs in a slot -/
def lstAt (i : Nat) (ρ : Env) : Option (List D) := match ownAt i ρ with
  | some (.lst ms) => leafsOf ms
  | _ => none
theorem lstAt_some {i : Nat} {ρ : Env} {ds : List D} (h : lstAt i ρ = some ds) : ownAt i ρ = some (.lst (ds.map .leaf)) := by
  unfold lstAt at h
  cases e : ownAt i ρ with
  | none => rw [e] at h; cases h
  | some m =>
    rw [e] at h
    cases m with
    | lst ms => rw [leafsOf_eq h]
    | _ => cases h
/-- the place of such a list, and what may be laid there instead -/
theorem SA.lstAt {G : Gm} {ρ : Env} {σ : L2.St} {H0 H : Hp} {F : List Addr} {π : Pen} {i : Nat} {ds : List D} (S : SA G ρ σ H0 H F) (P : PenAt G π H0 H) (h : lstAt i ρ = some ds) :
    ∃ p vs, σ[i]? = some (some (.ref p)) ∧ H p = some (.lst vs) ∧ Reps G H0 ds vs ∧ p ∈ F ∧ ∀ es ws, Reps G H0 es ws → ∃ F', SA G (ρ.set i (.ow (.lst (es.map .leaf)))) σ H0 (upd H p (.lst ws)) F' ∧ PenAt G π H0 (upd H p (.lst ws)) ∧ ∀ b ∈ F', b ∈ F := by
  have hm : (M.lst (ds.map .leaf)).at [] = some (.lst (ds.map .leaf)) := rfl
  obtain ⟨x, v, Fb, h1, h2, _, h4, h5, h6, h7⟩ := S.mut P (ownAt_some (lstAt_some h)) hm
  simp only [RepM] at h4
  obtain ⟨p, vs, F', g1, g2, g3, g4, g5, g6⟩ := h4
  obtain ⟨g7, g8⟩ := unleafs g6
  subst g8
  have hx : x = v := by simp only [Sub] at h2; first | exact h2 | exact h2.symm
  subst hx
  subst g1
  refine ⟨p, vs, h1, g5, g7, h6 p (by simp [g2]), fun es ws r => ?_⟩
  obtain ⟨F', q1, q2, q3⟩ := h7 p (.lst ws) (.lst (es.map .leaf)) [p] (by simp [g2]) (by
    simp only [RepM]
    exact ⟨p, ws, [], rfl, rfl, g3, g4, upd_same, leafs r⟩) (by simp) (by simp [g2])
  refine ⟨F', q1, q2, fun c hc => ?_⟩
  rcases q3 c hc with z | z
  · exact z
  · have : c = p := by simpa using z
    rw [this]; exact h6 p (by simp [g2])
theorem Reps.erase {G : Gm} {H : Hp} : ∀ {ds : List D} {vs : List V} (n : Nat), Reps G H ds vs → Reps G H (ds.eraseIdx n) (vs.eraseIdx n)
  | [], vs, n, h => by simp only [Reps] at h; subst h; simpa using Reps.nil
  | d :: ds, vs, 0, h => by
    obtain ⟨v, r, q, h1, h2⟩ := h.cases
    subst q
    exact h2
  | d :: ds, vs, n + 1, h => by
    obtain ⟨v, r, q, h1, h2⟩ := h.cases
    subst q
    exact .cons h1 (Reps.erase n h2)
theorem Reps.dropLast {G : Gm} {H : Hp} : ∀ {ds : List D} {vs : List V}, Reps G H ds vs → Reps G H ds.dropLast vs.dropLast
  | [], vs, h => by simp only [Reps] at h; subst h; exact .nil
  | [d], vs, h => by
    obtain ⟨v, r, q, h1, h2⟩ := h.cases
    simp only [Reps] at h2
    subst q h2
    exact .nil
  | d :: e :: ds, vs, h => by
    obtain ⟨v, r, q, h1, h2⟩ := h.cases
    obtain ⟨w, r2, q2, h3, h4⟩ := h2.cases
    subst q q2
    exact .cons h1 (Reps.dropLast (.cons h3 h4))
/-- found.append(rest.pop(e)) -/
def sAppPop (i j : Nat) (me : Env → MM D) : Env → MM Out := fun ρ => do
  let d ← me ρ
  match d, lstAt i ρ, lstAt j ρ with
  | .int n, some ds, some es => match (if ds.length < 100000 ∧ es.length < 100000 ∧ i ≠ j then seqIndex? n es.length else none) with
    | some k => match es[k]? with
      | some e => pure (.next ((ρ.set j (.ow (.lst ((es.eraseIdx k).map .leaf)))).set i (.ow (.lst ((ds ++ [e]).map .leaf)))))
      | none => fail
    | none => fail
  | _, _, _ => fail
theorem lstAt_set {i j : Nat} {ρ : Env} {s : Sl} (h : i ≠ j) : lstAt i (ρ.set j s) = lstAt i ρ := by
  unfold lstAt ownAt
  rw [List.getElem?_set_ne (Ne.symm h)]
theorem seqIdx_small {n : Int} {l k : Nat} (h : seqIndex? n l = some k) (hl : l < 100000) : -(2 ^ 63) ≤ n ∧ n < 2 ^ 63 := by
  unfold seqIndex? at h
  by_cases c : n < 0
  · simp [c] at h
    omega
  · simp [c] at h
    omega
theorem rs_appPop {i j : Nat} (he : Rf K cl true te me) : Rs K cl (tDrop (tBM K "list" rAppend (tVar i) (tCons (tBM K "list" rPopAt (tVar j) (tCons te tNil)) tNil))) (sAppPop i j me) := by
  intro pa ρ σ H0 H F π o π' E S P hm k
  obtain ⟨d, π1, e1, hm⟩ := mm_bind_some hm
  cases d with
  | int n =>
    cases ei : lstAt i ρ with
    | none => rw [ei] at hm; cases hm
    | some ds =>
    cases ej : lstAt j ρ with
    | none => rw [ei, ej] at hm; cases hm
    | some es =>
    rw [ei, ej] at hm
    simp only at hm
    by_cases c : ds.length < 100000 ∧ es.length < 100000 ∧ i ≠ j
    case neg => rw [if_neg c] at hm; cases hm
    rw [if_pos c] at hm
    cases ek : seqIndex? n es.length with
    | none => rw [ek] at hm; cases hm
    | some l =>
    rw [ek] at hm
    simp only at hm
    cases eg : es[l]? with
    | none => rw [eg] at hm; cases hm
    | some e =>
    rw [eg] at hm
    cases hm
    obtain ⟨p, vs, hp1, hp2, hp3, hp4, _⟩ := S.lstAt P ei
    obtain ⟨q, ws, hq1, hq2, hq3, hq4, _⟩ := S.lstAt P ej
    refine ⟨_, hp1, Or.inl ⟨rfl, vs, Or.inl (Or.inl hp2)⟩, _, hq1, Or.inl ⟨rfl, ws, Or.inl (Or.inl hq2)⟩, ?_⟩
    refine he pa ρ σ H0 H F π (.int n) π' _ S P e1 fun y H01 H1 s1 P1 r1 => ?_
    simp only [Rep] at r1
    subst r1
    have S1 := S.pure s1
    obtain ⟨q', ws', jq1, jq2, jq3, jq4, jq5⟩ := S1.lstAt P1 ej
    rw [hq1] at jq1
    cases jq1
    obtain ⟨v, hv, rv⟩ := jq3.get eg
    obtain ⟨F1, S2, P2, f1⟩ := jq5 _ _ (jq3.erase l)
    have hb := seqIdx_small ek c.2.1
    refine ⟨q, ws', n, l, v, rfl, rfl, jq2, hb.1, hb.2, by rw [jq3.length]; exact ek, hv, ?_⟩
    obtain ⟨p', vs', ip1, ip2, ip3, ip4, ip5⟩ := S2.lstAt P2 (show lstAt i _ = some ds by rw [lstAt_set c.2.2]; exact ei)
    rw [hp1] at ip1
    cases ip1
    obtain ⟨F2, S3, P3, f2⟩ := ip5 _ _ (ip3.append (.cons rv .nil))
    refine ⟨p, vs', v, rfl, rfl, ip2, size_lt (m := 100000) (by rw [ip3.length]; exact c.1) (Nat.le_refl _), ?_⟩
    refine k σ H01 _ F2 S3 P3 ?_
    have a1 : Step ⟨K, cl, pa⟩ F H0 H F1 H01 (upd H1 q (.lst (ws'.eraseIdx l))) := mut_step (F2 := []) s1 S2.i0 hq4 (fun c hc => Or.inl (f1 c hc)) (by simp)
    exact a1.trans (G := ⟨K, cl, pa⟩) (fun _ => P2.pa) (mut_step (F2 := []) (Pure.refl S2.i0) S3.i0 ip4 (fun c hc => Or.inl (f2 c hc)) (by simp))
  | _ => cases hm
/-- target = xs.pop() -/
def sPop0 (j : Nat) (f : D → Env → MM Env) : Env → MM Out := fun ρ => do
  match lstAt j ρ with
  | some es => match es[es.length - 1]? with
    | some e => do
      let ρ1 ← f e (ρ.set j (.ow (.lst (es.dropLast.map .leaf))))
      pure (.next ρ1)
    | none => fail
  | none => fail
theorem rs_pop0 {j : Nat} {g : TG} {f : D → Env → MM Env} (hg : Rg K cl g f) : Rs K cl (tAsg (tBM0 K "list" rPop (tVar j)) g) (sPop0 j f) := by
  intro pa ρ σ H0 H F π o π' E S P hm k
  unfold sPop0 at hm
  cases ej : lstAt j ρ with
  | none => rw [ej] at hm; cases hm
  | some es =>
  rw [ej] at hm
  simp only at hm
  cases eg : es[es.length - 1]? with
  | none => rw [eg] at hm; cases hm
  | some e =>
  rw [eg] at hm
  obtain ⟨ρ1, π1, e1, hm⟩ := mm_bind_some hm
  cases hm
  obtain ⟨q, ws, hq1, hq2, hq3, hq4, hq5⟩ := S.lstAt P ej
  obtain ⟨v, hv, rv⟩ := hq3.get eg
  obtain ⟨F1, S2, P2, f1⟩ := hq5 _ _ hq3.dropLast
  refine ⟨_, hq1, Or.inl ⟨rfl, ws, Or.inl (Or.inl hq2)⟩, q, ws, v, rfl, rfl, hq2, by rw [hq3.length]; exact hv, ?_⟩
  have a1 : Step ⟨K, cl, pa⟩ F H0 H F1 H0 (upd H q (.lst ws.dropLast)) := mut_step (F2 := []) (Pure.refl S.i0) S2.i0 hq4 (fun c hc => Or.inl (f1 c hc)) (by simp)
  exact hg pa _ σ H0 _ F1 π e v ρ1 π' _ S2 P2 rv e1 fun σ2 H02 H2 F2 S3 P3 s3 => k σ2 H02 H2 F2 S3 P3 (a1.trans (G := ⟨K, cl, pa⟩) (fun _ => P2.pa) s3)
/-- target = xs.pop(e) -/
def sPop1 (j : Nat) (me : Env → MM D) (f : D → Env → MM Env) : Env → MM Out := fun ρ => do
  let d ← me ρ
  match d, lstAt j ρ with
  | .int n, some es => match (if es.length < 100000 then seqIndex? n es.length else none) with
    | some k => match es[k]? with
      | some e => do
        let ρ1 ← f e (ρ.set j (.ow (.lst ((es.eraseIdx k).map .leaf))))
        pure (.next ρ1)
      | none => fail
    | none => fail
  | _, _ => fail
theorem rs_pop1 {j : Nat} {g : TG} {f : D → Env → MM Env} (he : Rf K cl true te me) (hg : Rg K cl g f) : Rs K cl (tAsg (tBM K "list" rPopAt (tVar j) (tCons te tNil)) g) (sPop1 j me f) := by
  intro pa ρ σ H0 H F π o π' E S P hm k
  obtain ⟨d, π1, e1, hm⟩ := mm_bind_some hm
  cases d with
  | int n =>
    cases ej : lstAt j ρ with
    | none => rw [ej] at hm; cases hm
    | some es =>
    rw [ej] at hm
    simp only at hm
    by_cases c : es.length < 100000
    case neg => rw [if_neg c] at hm; cases hm
    rw [if_pos c] at hm
    cases ek : seqIndex? n es.length with
    | none => rw [ek] at hm; cases hm
    | some l =>
    rw [ek] at hm
    simp only at hm
    cases eg : es[l]? with
    | none => rw [eg] at hm; cases hm
    | some e =>
    rw [eg] at hm
    obtain ⟨ρ1, π2, e2, hm⟩ := mm_bind_some hm
    cases hm
    obtain ⟨q, ws, hq1, hq2, hq3, hq4, _⟩ := S.lstAt P ej
    refine ⟨_, hq1, Or.inl ⟨rfl, ws, Or.inl (Or.inl hq2)⟩, ?_⟩
    refine he pa ρ σ H0 H F π (.int n) π1 _ S P e1 fun y H01 H1 s1 P1 r1 => ?_
    simp only [Rep] at r1
    subst r1
    have S1 := S.pure s1
    obtain ⟨q', ws', jq1, jq2, jq3, jq4, jq5⟩ := S1.lstAt P1 ej
    rw [hq1] at jq1
    cases jq1
    obtain ⟨v, hv, rv⟩ := jq3.get eg
    obtain ⟨F1, S2, P2, f1⟩ := jq5 _ _ (jq3.erase l)
    have hb := seqIdx_small ek c
    refine ⟨q, ws', n, l, v, rfl, rfl, jq2, hb.1, hb.2, by rw [jq3.length]; exact ek, hv, ?_⟩
    have a1 : Step ⟨K, cl, pa⟩ F H0 H F1 H01 (upd H1 q (.lst (ws'.eraseIdx l))) := mut_step (F2 := []) s1 S2.i0 hq4 (fun c hc => Or.inl (f1 c hc)) (by simp)
    exact hg pa _ σ H01 _ F1 π1 e v ρ1 π' _ S2 P2 rv e2 fun σ2 H02 H2 F2 S3 P3 s3 => k σ2 H02 H2 F2 S3 P3 (a1.trans (G := ⟨K, cl, pa⟩) (fun _ => P2.pa) s3)
  | _ => cases hm
end
end DL
set_option Elab.async false
set_option linter.all false
set_option maxRecDepth 100000
set_option maxHeartbeats 4000000
namespace DL
open PySem L2 PySem.Spec PySem.W

/-! ### == and != of instances with an own == -/
section
variable {prog : Program} {w : World} {A : Around} {E : Value → Shared → Prop} {s : Shared} {K : Frag} {x C L f : Addr} {h₀ : Heap} {m : Str → Option Value} {ox : Obj} {od : Option Obj} {b tb : Value}
theorem ne_entry {Q : Fin → Shared → Prop} (hu : A.units < cLine) (X : K.In s.heap) (I : InstAt s.heap x ox C od) (hs : findIn K (.ref C) "__eq__" = some (some (.ref f))) (hf : isFn K (.ref f) = true)
    (h : wpAny (model prog w) A (call (.ref f) [.ref x, b]) (fun v s' => ∃ c, v = .bool c ∧ Q (.done (.ret (.bool (!c)))) s') E s) : wpAny (model prog w) A (Builtin.«object.__ne__» ⟨[.ref x, b], []⟩) Q E s := by
  obtain ⟨hp, g, d, t, os⟩ := s
  unfold Builtin.«object.__ne__»
  repeat (first
    | with_reducible refine wpAny_cRoomFor hu ?_
    | (refine wpAny_bind (m := callSpecialIfBound? (.ref x) (Str.ofString "__eq__") [b])
        (ifBound_K X I hs hf (wpAny_mono h (fun r s' hr => by
          obtain ⟨c, rfl, hq⟩ := hr
          repeat (first | exact hq | exact wpAny_pure hq | exact wpAny_truthy_bool hq | (refine wpAny_bind (m := truthy (.bool _)) (wpAny_truthy_bool ?_)) | wp_step)) fun _ _ e => e)))
    | wp_step)
theorem ne_bound {Q : Option Value → Shared → Prop} {S : Slot "object" "__ne__" "object.__ne__"} (hu : A.units + 1 < cLine) (X : K.In s.heap) (I : InstAt s.heap x ox C od) (hn : findIn K (.ref C) "__ne__" = some (some (.builtin "object.__ne__")))
    (ho : mroIn K C (.type "object") = some true) (hs : findIn K (.ref C) "__eq__" = some (some (.ref f))) (hf : isFn K (.ref f) = true)
    (h : wpAny (model prog w) A.in1 (call (.ref f) [.ref x, b]) (fun v s' => ∃ c, v = .bool c ∧ Q (some (.bool (!c))) s') E s) : wpAny (model prog w) A (callSpecialIfBound? (.ref x) "__ne__" [b]) Q E s := by
  simp only [callSpecialIfBound?, bindSpecialIfBound?]
  refine wpAny_holding (wpAny_bind (wpAny_bind (wpAny_bind (I.type.here ((looks_findIn X hn).here ?_)))))
  simp only [S.bind]
  refine wpAny_bind (wpAny_askSetting (wpAny_ite ?_))
  have fin : wpAny (model prog w) A (call (.builtin "object.__ne__") ([.ref x] ++ [b]) >>= fun v => pure (some v)) Q E s := by
    refine wpAny_bind (wpAny_call (codeAny_call_builtin S.plain F.cmpEntry_ne (check_slot F.cmpKind_ne F.cmpSplit_ne (by unfold isInstance; exact I.type.andThen (looks_subIn X (t := .ref C) (base := .type "object") ho)) (F.cmpArgs_ne _ _) ?_)))
    refine ne_entry (A := A.in1) hu X I hs hf (wpAny_mono h (fun v s' hv => ?_) fun _ _ e => e)
    obtain ⟨c, rfl, hq⟩ := hv
    exact ⟨c, rfl, wpAny_pure hq⟩
  split
  · exact wpAny_bind (wpAny_pure (wpAny_pure fin))
  · exact wpAny_tryCatch (wpAny_bind (wpAny_pure (wpAny_pure fin)))
theorem ne_K {Q : Value → Shared → Prop} (hu : A.units + 1 < cLine) (X : K.In s.heap) (I : InstAt s.heap x ox C od) (hb : Looks (model prog w) s.heap (typeOf b) tb) (hn : notFirst K C tb = true)
    (hne : findIn K (.ref C) "__ne__" = some (some (.builtin "object.__ne__"))) (ho : mroIn K C (.type "object") = some true) (hs : findIn K (.ref C) "__eq__" = some (some (.ref f))) (hf : isFn K (.ref f) = true)
    (h : wpAny (model prog w) A.in1 (call (.ref f) [.ref x, b]) (fun v s' => ∃ c, v = .bool c ∧ Q (.bool (!c)) s') E s) : wpAny (model prog w) A (richCompare .NotEq (.ref x) b) Q E s := by
  have one : wpAny (model prog w) A (tryCompare (.ref x) "__ne__" b) (fun r s' => ∃ v, r = some v ∧ Q v s') E s := by
    unfold tryCompare
    refine wpAny_bind (ne_bound (S := F.cmp_object.ne) hu X I hne ho hs hf (wpAny_mono h (fun v s' hv => ?_) fun _ _ e => e))
    obtain ⟨c, rfl, hq⟩ := hv
    exact ⟨c, rfl, wpAny_pure ⟨_, rfl, hq⟩⟩
  unfold richCompare
  simp only [oneThing_ref]
  refine wpAny_holding (wpAny_bind (wpAny_cRoomFor (Nat.lt_of_succ_lt hu) ?_))
  refine wpAny_bind (I.type.here (wpAny_bind (hb.here ?_)))
  split
  · rename_i q
    have e : subIn K tb (.ref C) = some false := by
      rcases Bool.or_eq_true_iff.mp hn with e | e
      · rw [beq_iff_eq.mp e] at q; simp at q
      · exact beq_iff_eq.mp e
    refine wpAny_bind ((looks_subIn X e).here ?_)
    simp only [Bool.false_eq_true, if_false]
    refine wpAny_bind (wpAny_mono one (fun r s' z => ?_) fun _ _ e => e)
    obtain ⟨v, rfl, hq⟩ := z
    exact wpAny_pure hq
  · refine wpAny_bind (wpAny_pure ?_)
    simp only [Bool.false_eq_true, if_false]
    refine wpAny_bind (wpAny_mono one (fun r s' z => ?_) fun _ _ e => e)
    obtain ⟨v, rfl, hq⟩ := z
    exact wpAny_pure hq
end
/-- == , != of two instances: the == of the left one's class, which is that of number c -/
def rOwnEq (K : Frag) (C : Addr) (neg : Bool) (sp : Sp) (E : XK) : R2 := fun x y H Q => ∃ a dx fs b C' dy gs, x = .ref a ∧ y = .ref b ∧ H a = some (.ins C dx fs) ∧ H b = some (.ins C' dy gs) ∧ notFirst K C (.ref C') = true ∧ sp [x, y] H (fun v H' => ∃ c, v = .bl c ∧ Q (.bl (if neg then !c else c)) H') E
structure OwnQ (K : Frag) (C f : Addr) : Prop where
  eq : findIn K (.ref C) "__eq__" = some (some (.ref f))
  fn : isFn K (.ref f) = true
  ne : findIn K (.ref C) "__ne__" = some (some (.builtin "object.__ne__"))
  ob : mroIn K C (.type "object") = some true
section
variable {X : Cx} {CX : CXT} {n : Nat} {C f : Addr} {fd : FuncData} {ps : List Str} {sp : Sp} {E : XK}
theorem own_run {A : Around} {fr : A.frames = X.A.frames} (hr : Room n A) (F : FnOk X.prog X.w X.K X.mg X.base CX n f fd ps sp) (hb : Binds X.K fd ps []) (hx : Passes CX X E) {pins : List (Addr × Obj)} {σ : St} {H : Hp} {s : Shared} {Q : VK} {a b : Addr} (I : Inv X pins σ H s) (h : sp [.ref a, .ref b] H Q E) :
    wpAny (model X.prog X.w) A (call (.ref f) [.ref a, .ref b]) (EP X pins σ Q) X.xe s := by
  have e0 : Env0 X.prog X.w X.K X.mg X.base A X.stack s H := by
    have e := I.env0
    exact ⟨by rw [fr]; exact e.frames, e.mod, e.bs, e.bsz, e.funs, e.frf, e.hok, e.bare⟩
  have hl := F.len _ _ _ _ h
  have r2 : Vals [V.ref a, V.ref b] [Value.ref a, Value.ref b] := .cons rfl (.cons rfl .nil)
  refine wpAny_call (codeAny_mono (F.run A X.stack s H ⟨[.ref a, .ref b], []⟩ [.ref a, .ref b] [.ref a, .ref b] Q E hr e0 (by
    have := hb s [.ref a, .ref b] I.kIn (by simpa using hl)
    simpa using this) r2 h) fun r s' hq => ?_)
  cases r with
  | error e => exact hx pins σ H s e s' I hq
  | ok fl =>
    cases fl with
    | ret w => exact I.after hq
    | next => exact False.elim hq
    | brk => exact False.elim hq
    | cont => exact False.elim hq
theorem op_ownEq (O : OwnQ X.K C f) (F : FnOk X.prog X.w X.K X.mg X.base CX n f fd ps sp) (hr : Room n X.A) (hb : Binds X.K fd ps []) (hx : Passes CX X E) : OpR X (compareOp .Eq) (rOwnEq X.K C false sp E) := by
  intro pins s σ H x y v u Q I rx ry h
  obtain ⟨a, dx, fs, b, C', dy, gs, rfl, rfl, ha, hb', hn, q⟩ := h
  cases rx
  cases ry
  obtain ⟨mA, J, _⟩ := ins_get I.hok ha
  obtain ⟨mB, J', _⟩ := ins_get I.hok hb'
  obtain ⟨od, J, _⟩ := J.look
  obtain ⟨od', J', _⟩ := J'.look
  obtain ⟨m, hF⟩ := I.fr
  show wpAny (model X.prog X.w) X.A (richCompare .Eq (.ref a) (.ref b)) (EP X pins σ Q) X.xe s
  refine cmp_K (op := .Eq) (tb := .ref C') hr.units0 hF I.ok.mod.kin J J'.type hn O.eq O.fn ?_
  refine wpAny_mono (own_run (fr := rfl) hr F hb hx I q) (fun w s' z => ?_) fun _ _ x => x
  obtain ⟨z', H', I', rz, c, ec, q⟩ := z
  subst ec
  cases (show w = Value.bool c from rz)
  exact ⟨.bl c, H', I', rfl, q⟩
theorem op_ownNe (O : OwnQ X.K C f) (F : FnOk X.prog X.w X.K X.mg X.base CX n f fd ps sp) (hr : Room (n + 1) X.A) (hb : Binds X.K fd ps []) (hx : Passes CX X E) : OpR X (compareOp .NotEq) (rOwnEq X.K C true sp E) := by
  intro pins s σ H x y v u Q I rx ry h
  obtain ⟨a, dx, fs, b, C', dy, gs, rfl, rfl, ha, hb', hn, q⟩ := h
  cases rx
  cases ry
  obtain ⟨mA, J, _⟩ := ins_get I.hok ha
  obtain ⟨mB, J', _⟩ := ins_get I.hok hb'
  obtain ⟨od, J, _⟩ := J.look
  obtain ⟨od', J', _⟩ := J'.look
  obtain ⟨m, hF⟩ := I.fr
  show wpAny (model X.prog X.w) X.A (richCompare .NotEq (.ref a) (.ref b)) (EP X pins σ Q) X.xe s
  refine ne_K (tb := .ref C') (by have := hr.in1.units0; exact this) I.kIn J J'.type hn O.ne O.ob O.eq O.fn ?_
  refine wpAny_mono (own_run (A := X.A.in1) (fr := rfl) hr.in1 F hb hx I q) (fun w s' z => ?_) fun _ _ x => x
  obtain ⟨z', H', I', rz, c, ec, q⟩ := z
  subst ec
  cases (show w = Value.bool c from rz)
  exact ⟨c, rfl, .bl (!c), H', I', rfl, q⟩
end
end DL
set_option Elab.async false
set_option linter.all false
set_option maxRecDepth 100000
set_option maxHeartbeats 4000000
namespace DL
open PySem L2

section
variable {K : PySem.W.Frag} {cl : Nat → Addr}
variable {b bi bo : Bool} {ta tb tc te to : TE} {ma mb mc me : Env → MM D} {t u : TT} {mt mu : Env → MM Bool} {tg : TA} {mg : Env → MM (List D)} {t1 t2 : TS} {m1 m2 : Env → MM Out}
/-- x == y, x != y of instances, x one of the class of number c -/
def ownRes (neg : Bool) (d : D) : MM D := match d with
  | .bl z => pure (.bl (if neg then !z else z))
  | _ => fail
def eOwn (n c : Nat) (neg : Bool) (m : List D → MM D) (ma mb : Env → MM D) : Env → MM D := fun ρ => do
  let x ← ma ρ
  let y ← mb ρ
  match x, y with
  | .ins c1 _ _, .ins c2 _ _ => if c1 = c ∧ c2 < n then m [x, y] >>= ownRes neg else fail
  | _, _ => fail
theorem rf_own {n c : Nat} {neg : Bool} {m : List D → MM D} {E : XK} (hn : ∀ c', c' < n → PySem.W.notFirst K (cl c) (.ref (cl c')) = true) (ha : Rf K cl true ta ma) (hb : Rf K cl true tb mb) :
    Rf K cl b (tOp (rOwnEq K (cl c) neg (spD K cl 2 m) E) ta tb) (eOwn n c neg m ma mb) := by
  intro pa ρ σ H0 H F π d π' Q S P hm k
  obtain ⟨x, π1, e1, hm⟩ := mm_bind_some hm
  obtain ⟨y, π2, e2, hm⟩ := mm_bind_some hm
  refine ha pa ρ σ H0 H F π x π1 _ S P e1 fun v H01 H1 s1 P1 r1 => ?_
  refine hb pa ρ σ H01 H1 F π1 y π2 _ (S.pure s1) P1 e2 fun w H02 H2 s2 P2 r2 => ?_
  have s12 := s1.trans (fun _ => P1.pa) s2
  cases x with
  | ins c1 fs ds =>
    cases y with
    | ins c2 gs es =>
      simp only at hm
      by_cases c0 : c1 = c ∧ c2 < n
      case neg => rw [if_neg c0] at hm; cases hm
      rw [if_pos c0] at hm
      obtain ⟨r, π3, e3, hm⟩ := mm_bind_some hm
      cases r with
      | bl z =>
        cases hm
        simp only [pick, if_true] at r1 r2
        have r1' := Rep.mono s2.fz r1
        have r1'' := r1'
        have r2' := r2
        simp only [Rep] at r1' r2'
        obtain ⟨p, dx, vs, rfl, g1, _⟩ := r1'
        obtain ⟨q, dy, ws, rfl, h1, _⟩ := r2'
        have e0 : Ex H02 H2 := s2.inn.trans ex_hid
        have hc : c1 = c := c0.1
        subst hc
        refine ⟨p, dx, _, q, cl c2, dy, _, rfl, rfl, e0 _ _ g1, e0 _ _ h1, hn c2 c0.2, ?_⟩
        refine ⟨pa, H02, π2, [_, _], _, _, s2.inn, P2, .cons r1'' (.cons r2 .nil), rfl, e3, fun v H03 H3 s3 P3 r3 => ?_⟩
        simp only [Rep] at r3
        exact ⟨z, r3, k _ H03 H3 (s12.trans (fun _ => P2.pa) s3) P3 (by simp only [Rep])⟩
      | _ => cases hm
    | _ => cases hm
  | _ => cases hm
/-- a test by such a comparison's value -/
theorem rt_own {n c : Nat} {neg : Bool} {m : List D → MM D} {E : XK} (hn : ∀ c', c' < n → PySem.W.notFirst K (cl c) (.ref (cl c')) = true) (ha : Rf K cl true ta ma) (hb : Rf K cl true tb mb) :
    Rt K cl (tTest (tOp (rOwnEq K (cl c) neg (spD K cl 2 m) E) ta tb)) (tBool (eOwn n c neg m ma mb)) := rt_test (b := true) (rf_own hn ha hb)
/-- a name of the top: a class, a number -/
theorem rf_cls {c : Nat} : Rf K cl b (tC (.ref (cl c))) (eC (.cls c)) := by
  intro pa ρ σ H0 H F π d π' Q S P hm k
  cases hm
  exact k.here S.i0 P (by simp only [Rep])
theorem rf_ty {s : String} : Rf K cl b (tC (.ty s)) (eC (.ty s)) := rf_c fun _ _ => by simp only [Rep]
end
end DL
set_option Elab.async false
set_option linter.all false
set_option maxRecDepth 100000
set_option maxHeartbeats 4000000
namespace DL
open PySem L2

/-! ### the law's pen -/
def penK (c : Addr) (a d n f : Int) : List (Key × V) := [(.inr "cells", .ref c), (.inr "at", .int a), (.inr "digits", .int d), (.inr "count", .int n), (.inr "fold", .int f)]
section
variable {c : Addr} {a d n f : Int}
theorem vk_cells : valV (penK c a d n f) (.inr "cells") = some (.ref c) := by with_unfolding_all rfl
theorem vk_at : valV (penK c a d n f) (.inr "at") = some (.int a) := by with_unfolding_all rfl
theorem vk_digits : valV (penK c a d n f) (.inr "digits") = some (.int d) := by with_unfolding_all rfl
theorem vk_count : valV (penK c a d n f) (.inr "count") = some (.int n) := by with_unfolding_all rfl
theorem vk_fold : valV (penK c a d n f) (.inr "fold") = some (.int f) := by with_unfolding_all rfl
theorem pk_at (x : Int) : putK (penK c a d n f) (.inr "at") (.int x) = penK c x d n f := by with_unfolding_all rfl
theorem pk_digits (x : Int) : putK (penK c a d n f) (.inr "digits") (.int x) = penK c a x n f := by with_unfolding_all rfl
theorem pk_count (x : Int) : putK (penK c a d n f) (.inr "count") (.int x) = penK c a d x f := by with_unfolding_all rfl
theorem pk_fold (x : Int) : putK (penK c a d n f) (.inr "fold") (.int x) = penK c a d n x := by with_unfolding_all rfl
theorem mk_pen (x : V) (a d n f : V) : mergeK [] [(.inr "cells", x), (.inr "at", a), (.inr "digits", d), (.inr "count", n), (.inr "fold", f)] = [((.inr "cells" : Key), x), (.inr "at", a), (.inr "digits", d), (.inr "count", n), (.inr "fold", f)] := by with_unfolding_all rfl
end
/-- the next cell, if it is due -/
def Pen.fetch (π : Pen) : Pen := if π.digits = 0 then match π.cells[π.at_]? with
    | some cell => if (10 : Int) ^ 18 ≤ cell then { π with at_ := π.at_ + 1, digits := cell - 10 ^ 18 } else { π with at_ := π.at_ + 1, fold := (π.fold * 69069 + cell) % 2147483587 }
    | none => π
  else π
def Pen.mixed (π : Pen) : Int := π.fold + π.count * 7907 + 37
def Pen.give (m : Int) (π : Pen) : Int × Pen := if 0 < π.digits then (π.digits % m, { π with digits := π.digits / m }) else (π.mixed ^ 17 % 2305843009213693951 / 128 % m, π)
def Pen.tick (π : Pen) : Pen := { π with count := π.count + 1 }
def Pen.ok (m : Int) (π : Pen) : Prop := (0 < m ∧ m < 2 ^ 60) ∧ (0 ≤ π.fold ∧ π.fold < 2 ^ 32) ∧ (0 ≤ π.count ∧ π.count < 2 ^ 40)
instance (m : Int) (π : Pen) : Decidable (π.ok m) := by unfold Pen.ok; infer_instance
def drawM (m : Int) : MM Int := fun π => if π.ok m then some (π.tick.fetch.give m) else none
def rInt (K : PySem.W.Frag) : List V → Hp → VK → Prop := fun xs H Q => (∃ i, xs = [.int i] ∧ Q (.int i) H) ∨ ∃ k, xs = [.bl k] ∧ Q (.int (if k then 1 else 0)) H
section
variable {K : PySem.W.Frag}
abbrev gE (k : Str) : TE := tDGet (tVar 0) (tC (.str k))
abbrev iE (i : Int) : TE := tC (.int i)
abbrev rModE : R2 := rI (fun _ j => 0 < j) fun i j => .int (i % j)
abbrev rDivE : R2 := rI CDivW fun i j => .int (i / j)
abbrev rPowE : R2 := rI CPow fun i j => .int (i ^ j.toNat)
abbrev rMinE : R2 := rI0 fun i j => .int (i - j)
abbrev rLtE : R2 := rI0 fun i j => .bl (decide (i < j))
abbrev rGeE : R2 := rI0 fun i j => .bl (decide (j ≤ i))
abbrev rGtE : R2 := rI0 fun i j => .bl (decide (j < i))
abbrev rIntE : List V → Hp → VK → Prop := fun xs H Q => (∃ i, xs = [.int i] ∧ Q (.int i) H) ∨ ∃ k, xs = [.bl k] ∧ Q (.int (if k then 1 else 0)) H
abbrev intE (t : TE) : TE := tCB rIntE (tCons t tNil)
def tDraw (K : PySem.W.Frag) : TS :=
  tSeq (sDPut (tVar 0) (tC (.str "count")) (tOp (rAddA K) (gE "count") (iE 1)))
  (tSeq (tIfS (tAnd (tTest (tOp rEq (gE "digits") (iE 0))) (tTest (tOp rLtE (gE "at") (tCB (rLenA K) (tCons (gE "cells") tNil)))))
    (tSeq (tAsg (tOp (rSub K) (gE "cells") (gE "at")) (gName 2))
      (tSeq (sDPut (tVar 0) (tC (.str "at")) (tOp (rAddA K) (gE "at") (iE 1)))
        (tIfS (tTest (tOp rGeE (tVar 2) (tOp rPowE (iE 10) (iE 18))))
          (sDPut (tVar 0) (tC (.str "digits")) (tOp rMinE (tVar 2) (tOp rPowE (iE 10) (iE 18))))
          (sDPut (tVar 0) (tC (.str "fold")) (tOp rModE (intE (tOp (rAddA K) (tOp (rMulA K) (gE "fold") (iE 69069)) (tVar 2))) (iE 2147483587))))))
    tNext)
  (tSeq (tIfS (tTest (tOp rGtE (gE "digits") (iE 0)))
    (tSeq (tAsg (tOp rModE (intE (gE "digits")) (tVar 1)) (gName 3))
      (tSeq (sDPut (tVar 0) (tC (.str "digits")) (tOp rDivE (gE "digits") (tVar 1))) (tRet (tVar 3))))
    tNext)
  (tSeq (tAsg (tOp (rAddA K) (tOp (rAddA K) (gE "fold") (tOp (rMulA K) (gE "count") (iE 7907))) (iE 37)) (gName 4))
    (tRet (tOp rModE (tOp rDivE (intE (tOp rModE (tOp rPowE (tVar 4) (iE 17)) (iE 2305843009213693951))) (iE 128)) (tVar 1))))))
/-- what _law_draw promises -/
def spDraw (K : PySem.W.Frag) : Sp := fun vs H Q _ => ∃ (p c : Addr) (m : Int) (π : Pen), vs = [.ref p, .int m] ∧ H p = some (.dK (penK c π.at_ π.digits π.count π.fold)) ∧ H c = some (.lst (π.cells.map V.int)) ∧ c ≠ p ∧ π.ok m ∧
  ∀ H' : Hp, (∀ b, b ≠ p → H' b = H b) → H' p = some (.dK (penK c (π.tick.fetch.give m).2.at_ (π.tick.fetch.give m).2.digits (π.tick.fetch.give m).2.count (π.tick.fetch.give m).2.fold)) → Q (.int (π.tick.fetch.give m).1) H'
theorem g_get {k : Str} {kvs : List (Key × V)} {p : Addr} {v : V} {σ : L2.St} {H : Hp} {Q : VK} (h0 : σ[0]? = some (some (.ref p))) (hp : H p = some (.dK kvs)) (hv : valV kvs (.inr k) = some v) (q : Q v H) : gE k σ H Q :=
  ⟨.ref p, h0, p, v, rfl, by rw [← hv]; exact DGet.k (k := .inr k) hp, q⟩
theorem g_put {k : Str} {kvs : List (Key × V)} {p : Addr} {v : V} {σ : L2.St} {H : Hp} {D : Ends} (h0 : σ[0]? = some (some (.ref p))) (hp : H p = some (.dK kvs)) (hl : kvs.length ≤ 100) (q : D.nx σ (upd H p (.dK (putK kvs (.inr k) v)))) :
    (tVar 0) σ H fun x H2 => (tC (.str k)) σ H2 fun y H3 => ∃ a H4, x = .ref a ∧ DPut H3 a y v H4 ∧ D.nx σ H4 :=
  ⟨.ref p, h0, p, _, rfl, DPut.k (k := .inr k) hp (size_lt (m := 1000) (by omega) (by omega)), q⟩
theorem mulw {i j : Int} (h : i.natAbs < 2 ^ 100) (h2 : j.natAbs < 2 ^ 100) : CMulW i j := wide_mul h h2 (by decide) (by decide) (by decide)
theorem divw {i j : Int} (h0 : 0 < j) (h2 : j < 2 ^ 60) : CDivW i j := wide_div (b := 60) h0 (by omega) (by decide) (by decide)
theorem len_cells {c : Addr} {xs : List V} {H : Hp} {Q : VK} (h : H c = some (.lst xs)) (q : Q (.int xs.length) H) : rLenA K [.ref c] H Q := Or.inl ⟨_, xs.length, rfl, Or.inl ⟨xs, Or.inl (Or.inl h), rfl⟩, q⟩
theorem get_cell {c : Addr} {xs : List Int} {H : Hp} {Q : VK} {j : Nat} {x : Int} (h : H c = some (.lst (xs.map V.int))) (e : xs[j]? = some x) (q : Q (.int x) H) : rSub K (.ref c) (.int j) H Q :=
  Or.inl (Or.inl ⟨c, _, _, _, rfl, rfl, Or.inl (Or.inl h), atI_nat (by rw [List.getElem?_map, e]; rfl), q⟩)
theorem add_ints {i j : Int} {H : Hp} {Q : VK} (q : Q (.int (i + j)) H) : rAddA K (.int i) (.int j) H Q := Or.inl ⟨i, j, rfl, rfl, q⟩
theorem mul_ints {i j : Int} {H : Hp} {Q : VK} (h : CMulW i j) (q : Q (.int (i * j)) H) : rMulA K (.int i) (.int j) H Q := Or.inl ⟨i, j, rfl, rfl, h, q⟩
theorem ifT {c : Bool} {A B : Prop} (hc : c = true) (h : A) : if c = true then A else B := by rw [if_pos hc]; exact h
theorem ifF {c : Bool} {A B : Prop} (hc : c = false) (h : B) : if c = true then A else B := by rw [hc, if_neg Bool.false_ne_true]; exact h
theorem cst {v : V} {σ : L2.St} {H : Hp} {Q : VK} (q : Q v H) : tC v σ H Q := q
theorem nl {σ : L2.St} {H : Hp} {Q : List V → Hp → Prop} (q : Q [] H) : tNil σ H Q := q
/-- the end of _law_draw -/
theorem draw_end {D : Ends} {σ : L2.St} {H : Hp} {p c : Addr} {m : Int} {π : Pen} (h0 : σ[0]? = some (some (.ref p))) (h1 : σ[1]? = some (some (.int m))) (hl : σ.length = 5) (hp : H p = some (.dK (penK c π.at_ π.digits π.count π.fold)))
    (hm : 0 < m ∧ m < 2 ^ 60) (hf : 0 ≤ π.fold ∧ π.fold < 2 ^ 32) (hc : 0 ≤ π.count ∧ π.count ≤ 2 ^ 40)
    (k : ∀ H' : Hp, (∀ b, b ≠ p → H' b = H b) → H' p = some (.dK (penK c (π.give m).2.at_ (π.give m).2.digits (π.give m).2.count (π.give m).2.fold)) → D.rt (.int (π.give m).1) H') :
    (tSeq (tIfS (tTest (tOp rGtE (gE "digits") (iE 0)))
      (tSeq (tAsg (tOp rModE (intE (gE "digits")) (tVar 1)) (gName 3))
        (tSeq (sDPut (tVar 0) (tC (.str "digits")) (tOp rDivE (gE "digits") (tVar 1))) (tRet (tVar 3))))
      tNext)
    (tSeq (tAsg (tOp (rAddA K) (tOp (rAddA K) (gE "fold") (tOp (rMulA K) (gE "count") (iE 7907))) (iE 37)) (gName 4))
      (tRet (tOp rModE (tOp rDivE (intE (tOp rModE (tOp rPowE (tVar 4) (iE 17)) (iE 2305843009213693951))) (iE 128)) (tVar 1))))) D σ H := by
  refine g_get h0 hp vk_digits ⟨π.digits, 0, rfl, rfl, _, rfl, ?_⟩
  by_cases hd : 0 < π.digits
  · have e1 : decide ((0 : Int) < π.digits) = true := decide_eq_true hd
    refine ifT e1 ?_
    have eg : π.give m = (π.digits % m, { π with digits := π.digits / m }) := by unfold Pen.give; rw [if_pos hd]
    rw [eg] at k
    refine g_get h0 hp vk_digits (Or.inl ⟨π.digits, rfl, _, h1, π.digits, m, rfl, rfl, hm.1, ?_⟩)
    have h0' : (σ.set 3 (some (V.int (π.digits % m))))[0]? = some (some (.ref p)) := by rw [List.getElem?_set_ne (by decide)]; exact h0
    have h1' : (σ.set 3 (some (V.int (π.digits % m))))[1]? = some (some (.int m)) := by rw [List.getElem?_set_ne (by decide)]; exact h1
    have h3' : (σ.set 3 (some (V.int (π.digits % m))))[3]? = some (some (.int (π.digits % m))) := by rw [List.getElem?_set_self (by omega)]
    refine g_get h0' hp vk_digits ⟨_, h1', π.digits, m, rfl, rfl, divw hm.1 hm.2, ?_⟩
    refine g_put h0' hp (show (5 : Nat) ≤ 100 by decide) ?_
    rw [pk_digits]
    exact ⟨_, h3', k _ (fun b hb => upd_ne hb) upd_same⟩
  · have e1 : decide ((0 : Int) < π.digits) = false := decide_eq_false hd
    refine ifF e1 ?_
    have eg : π.give m = (π.mixed ^ 17 % 2305843009213693951 / 128 % m, π) := by unfold Pen.give; rw [if_neg hd]
    rw [eg] at k
    refine g_get h0 hp vk_fold (g_get h0 hp vk_count (cst (mul_ints (mulw (by omega) (by decide)) (add_ints (cst (add_ints ?_))))))
    have h4' : (σ.set 4 (some (V.int (π.fold + π.count * 7907 + 37))))[4]? = some (some (.int (π.fold + π.count * 7907 + 37))) := by rw [List.getElem?_set_self (by omega)]
    have h1' : (σ.set 4 (some (V.int (π.fold + π.count * 7907 + 37))))[1]? = some (some (.int m)) := by rw [List.getElem?_set_ne (by decide)]; exact h1
    refine ⟨_, h4', _, 17, rfl, rfl, ⟨by decide, by decide, ?_⟩, _, _, rfl, rfl, (show (0 : Int) < 2305843009213693951 by decide), Or.inl ⟨_, rfl, _, _, rfl, rfl, divw (by decide) (by decide), _, h1', _, m, rfl, rfl, hm.1, ?_⟩⟩
    · have : (2 : Nat) ^ 64 = 18446744073709551616 := by decide
      omega
    · exact k H (fun _ _ => rfl) hp
theorem fetch_ok {m : Int} {π : Pen} (h : π.ok m) : (0 ≤ π.tick.fetch.fold ∧ π.tick.fetch.fold < 2 ^ 32) ∧ (0 ≤ π.tick.fetch.count ∧ π.tick.fetch.count ≤ 2 ^ 40) := by
  obtain ⟨h1, h2, h3⟩ := h
  unfold Pen.fetch Pen.tick
  simp only
  split
  · split
    · split
      · exact ⟨h2, by constructor <;> simp only <;> omega⟩
      · refine ⟨⟨Int.emod_nonneg _ (by decide), ?_⟩, by constructor <;> simp only <;> omega⟩
        have := Int.emod_lt_of_pos (π.fold * 69069 + ‹Int›) (show (0 : Int) < 2147483587 by decide)
        simp only
        omega
    · exact ⟨h2, by constructor <;> simp only <;> omega⟩
  · exact ⟨h2, by constructor <;> simp only <;> omega⟩
theorem pure_draw {vs : List V} {H : Hp} {Q : VK} {E : XK} (h : spDraw K vs H Q E) : tDraw K { nx := fun _ H' => Q .non H', rt := Q } (L2.start ["pen", "many", "cell", "digit", "mixed"] vs) H := by
  obtain ⟨p, c, m, π, rfl, hp, hc, ncp, ok, k⟩ := h
  have hf := fetch_ok ok
  obtain ⟨o1, o2, o3⟩ := id ok
  have h0 : (L2.start ["pen", "many", "cell", "digit", "mixed"] [V.ref p, V.int m])[0]? = some (some (.ref p)) := rfl
  refine g_get h0 hp vk_count (cst (add_ints (g_put h0 hp (show (5 : Nat) ≤ 100 by decide) ?_)))
  rw [pk_count]
  generalize hH1 : upd H p (.dK (penK c (π.at_ : Int) π.digits (π.count + 1) π.fold)) = H1
  have hp1 : H1 p = some (.dK (penK c π.at_ π.digits (π.count + 1) π.fold)) := by rw [← hH1]; exact upd_same
  have hc1 : H1 c = some (.lst (π.cells.map V.int)) := by rw [← hH1, upd_ne ncp]; exact hc
  have hb1 : ∀ b, b ≠ p → H1 b = H b := fun b hb => by rw [← hH1]; exact upd_ne hb
  refine g_get h0 hp1 vk_digits ⟨rfl, _, rfl, ?_⟩
  by_cases hd : π.digits = 0
  case neg =>
    have e1 : decide (V.int π.digits = V.int 0) = false := decide_eq_false fun z => hd (V.int.inj z)
    refine ifF e1 (ifF rfl ?_)
    have ef : π.tick.fetch = π.tick := by unfold Pen.fetch; rw [if_neg (show ¬ π.tick.digits = 0 from hd)]
    rw [ef] at k hf
    exact draw_end (π := π.tick) h0 rfl rfl hp1 o1 hf.1 hf.2 fun H' h1 h2 => k H' (fun b hb => (h1 b hb).trans (hb1 b hb)) h2
  case pos =>
    have e1 : decide (V.int π.digits = V.int 0) = true := decide_eq_true (by rw [hd])
    refine ifT e1 ?_
    refine g_get h0 hp1 vk_at (g_get h0 hp1 vk_cells (nl (len_cells hc1 ⟨_, _, rfl, rfl, _, rfl, ?_⟩)))
    rw [List.length_map]
    by_cases hl : π.at_ < π.cells.length
    case neg =>
      have e2 : decide ((π.at_ : Int) < (π.cells.length : Int)) = false := decide_eq_false (by omega)
      refine ifF e2 ?_
      have ef : π.tick.fetch = π.tick := by
        unfold Pen.fetch
        rw [if_pos (show π.tick.digits = 0 from hd), List.getElem?_eq_none (show π.tick.cells.length ≤ π.tick.at_ from Nat.le_of_not_lt hl)]
      rw [ef] at k hf
      exact draw_end (π := π.tick) h0 rfl rfl hp1 o1 hf.1 hf.2 fun H' h1 h2 => k H' (fun b hb => (h1 b hb).trans (hb1 b hb)) h2
    case pos =>
      have e2 : decide ((π.at_ : Int) < (π.cells.length : Int)) = true := decide_eq_true (by omega)
      refine ifT e2 ?_
      have eg : π.cells[π.at_]? = some π.cells[π.at_] := List.getElem?_eq_getElem hl
      generalize hx : π.cells[π.at_] = x at eg
      refine g_get h0 hp1 vk_cells (g_get h0 hp1 vk_at (get_cell hc1 eg ?_))
      refine g_get rfl hp1 vk_at (cst (add_ints (g_put rfl hp1 (show (5 : Nat) ≤ 100 by decide) ?_)))
      rw [pk_at]
      generalize hH2 : upd H1 p (.dK (penK c ((π.at_ : Int) + 1) π.digits (π.count + 1) π.fold)) = H2
      have hp2 : H2 p = some (.dK (penK c ((π.at_ : Int) + 1) π.digits (π.count + 1) π.fold)) := by rw [← hH2]; exact upd_same
      have hb2 : ∀ b, b ≠ p → H2 b = H b := fun b hb => by rw [← hH2, upd_ne hb]; exact hb1 b hb
      have ef : π.tick.fetch = if (10 : Int) ^ 18 ≤ x then { π.tick with at_ := π.at_ + 1, digits := x - 10 ^ 18 } else { π.tick with at_ := π.at_ + 1, fold := (π.fold * 69069 + x) % 2147483587 } := by
        unfold Pen.fetch
        rw [if_pos (show π.tick.digits = 0 from hd), show π.tick.cells[π.tick.at_]? = some x from eg]
        rfl
      refine ⟨_, rfl, 10, 18, rfl, rfl, ⟨by decide, by decide, by decide⟩, x, _, rfl, rfl, _, rfl, ?_⟩
      by_cases hb : (10 : Int) ^ 18 ≤ x
      · rw [if_pos hb] at ef
        have e3 : decide ((10 : Int) ^ (18 : Int).toNat ≤ x) = true := decide_eq_true hb
        refine ifT e3 ?_
        refine ⟨_, rfl, 10, 18, rfl, rfl, ⟨by decide, by decide, by decide⟩, x, _, rfl, rfl, g_put rfl hp2 (show (5 : Nat) ≤ 100 by decide) ?_⟩
        rw [pk_digits]
        rw [ef] at k hf
        refine draw_end (π := { π.tick with at_ := π.at_ + 1, digits := x - 10 ^ 18 }) rfl rfl rfl upd_same o1 hf.1 hf.2 fun H' h1 h2 => k H' (fun b hb => (h1 b hb).trans ((upd_ne hb).trans (hb2 b hb))) h2
      · rw [if_neg hb] at ef
        have e3 : decide ((10 : Int) ^ (18 : Int).toNat ≤ x) = false := decide_eq_false hb
        refine ifF e3 ?_
        refine g_get rfl hp2 vk_fold (cst (mul_ints (mulw (by omega) (by decide)) ⟨_, rfl, add_ints (Or.inl ⟨_, rfl, _, _, rfl, rfl, (show (0 : Int) < 2147483587 by decide), g_put rfl hp2 (show (5 : Nat) ≤ 100 by decide) ?_⟩)⟩))
        rw [pk_fold]
        rw [ef] at k hf
        refine draw_end (π := { π.tick with at_ := π.at_ + 1, fold := (π.fold * 69069 + x) % 2147483587 }) rfl rfl rfl upd_same o1 hf.1 hf.2 fun H' h1 h2 => k H' (fun b hb => (h1 b hb).trans ((upd_ne hb).trans (hb2 b hb))) h2
end
end DL
set_option Elab.async false
set_option linter.all false
set_option maxRecDepth 100000
set_option maxHeartbeats 4000000
namespace DL
open PySem L2

section
variable {K : PySem.W.Frag} {cl : Nat → Addr}
variable {b bi bo : Bool} {te : TE} {me : Env → MM D} {tg : TA} {mg : Env → MM (List D)} {t1 : TS}
/-! ### a draw as an expression -/
def drawD (ds : List D) : MM D := match ds with
  | [.pen, .int m] => drawM m >>= fun i => pure (.int i)
  | _ => fail
def eDraw (mg : Env → MM (List D)) : Env → MM D := fun ρ => mg ρ >>= drawD
theorem rf_draw {E : XK} (h : Ra K cl true tg mg) : Rf K cl b (tCall (spDraw K) [] E tg) (eDraw mg) := by
  intro pa ρ σ H0 H F π d π' Q S P hm k
  obtain ⟨ds, π1, e1, hm⟩ := mm_bind_some hm
  refine h pa ρ σ H0 H F π ds π1 _ S P e1 fun vs H01 H1 s1 P1 r1 => ?_
  rw [List.append_nil]
  match ds, hm, r1 with
  | [.pen, .int m], hm, r1 =>
    obtain ⟨i, π2, e2, hm⟩ := mm_bind_some hm
    cases hm
    obtain ⟨v, vr, q1, r2, r3⟩ := r1.cases
    obtain ⟨w, rfl, r4⟩ := one_rep r3
    simp only [Rep] at r2 r4
    subst q1 r2 r4
    unfold drawM at e2
    by_cases ok : π1.ok m
    case neg => rw [if_neg ok] at e2; cases e2
    rw [if_pos ok] at e2
    have e3 := Option.some.inj e2
    obtain ⟨rfl, rfl⟩ : (π1.tick.fetch.give m).1 = i ∧ (π1.tick.fetch.give m).2 = π' := by rw [e3]; exact ⟨rfl, rfl⟩
    have cp : pa.c ≠ pa.a := (hid_some (G := ⟨K, cl, pa⟩) (s1.inn _ _ P1.cs)).1
    refine ⟨pa.a, pa.c, m, π1, rfl, P1.at_, (s1.inn.trans ex_hid) _ _ P1.cs, cp, ok, fun H' hb hp => ?_⟩
    have hh : hid ⟨K, cl, pa⟩ H' = hid ⟨K, cl, pa⟩ H1 := by
      funext x
      by_cases e : x = pa.a
      · subst e
        rw [hid_pa (G := ⟨K, cl, pa⟩), hid_pa (G := ⟨K, cl, pa⟩)]
      · rw [hid_ne (G := ⟨K, cl, pa⟩) e, hid_ne (G := ⟨K, cl, pa⟩) e, hb x e]
    have ec : (π1.tick.fetch.give m).2.cells = π1.cells := by
      have f1 : ∀ q : Pen, (q.give m).2.cells = q.cells := fun q => by unfold Pen.give; split <;> rfl
      have f2 : ∀ q : Pen, q.fetch.cells = q.cells := fun q => by
        unfold Pen.fetch
        split
        · split
          · split <;> rfl
          · rfl
        · rfl
      rw [f1, f2]; rfl
    refine k _ H01 H' (s1.trans (fun _ => P1.pa) ⟨Ex.refl _, by rw [hh]; exact Ex.refl _, by rw [hh]; exact s1.inn, fun _ _ z => z⟩) ⟨?_, hp⟩ (by simp only [Rep])
    rw [ec]
    exact P1.cs

/-! ### the pen is made -/
abbrev rListOf (K : PySem.W.Frag) : List V → Hp → VK → Prop := fun xs H Q => ∃ p ys, xs = [.ref p] ∧ (SqL K H p ys ∨ SqT K H p ys) ∧ ∀ l, H l = none → Q (.ref l) (upd H l (.lst ys))
def tPenT (K : PySem.W.Frag) : TS :=
  tSeq (tAsg (tC (.int 0)) (gName 1))
  (tSeq (tFor (iList K (tVar 0)) (gName 2) (tAsg (tOp rModE (intE (tOp (rAddA K) (tOp (rMulA K) (tVar 1) (iE 47)) (tVar 2))) (iE 1000000007)) (gName 1)))
  (tRet (tDisp [(tC (.str "cells"), tCB (rListOf K) (tCons (tVar 0) tNil)), (tC (.str "at"), iE 0), (tC (.str "digits"), iE 0), (tC (.str "count"), iE 0), (tC (.str "fold"), tVar 1)])))
def spPen (K : PySem.W.Frag) : Sp := fun vs H Q _ => ∃ (a : Addr) (ns : List Int), vs = [.ref a] ∧ SqL K H a (ns.map V.int) ∧
  ∀ (p c : Addr) (f : Int) (H' : Hp), 0 ≤ f → f < 1000000007 → H' p = some (.dK (penK c 0 0 0 f)) → H' c = some (.lst (ns.map V.int)) → c ≠ p → Q (.ref p) H'
theorem pure_pen {vs : List V} {H : Hp} {Q : VK} {E : XK} (h : spPen K vs H Q E) : tPenT K { nx := fun _ H' => Q .non H', rt := Q } (L2.start ["script", "fold", "cell"] vs) H := by
  obtain ⟨a, ns, rfl, hs, k⟩ := h
  refine ⟨_, rfl, a, rfl, ⟨_, hs⟩, for_list (K := K) (a := a) (xs := ns.map V.int) (fun i σ H' => H' = H ∧ ∃ (f : Int) (v : Option V), σ = [some (.ref a), some (.int f), v] ∧ 0 ≤ f ∧ f < 1000000007)
    ⟨rfl, 0, none, rfl, by decide, by decide⟩ (fun i σ H' _ q => by rw [q.1]; exact hs) ?_ ?_⟩
  · rintro i x σ H' hi ⟨rfl, f, v, rfl, f0, f1⟩
    obtain ⟨z, rfl⟩ : ∃ z, x = V.int z := by
      rw [List.getElem?_map] at hi
      cases e : ns[i]? with
      | none => rw [e] at hi; cases hi
      | some z => rw [e] at hi; exact ⟨z, (Option.some.inj hi).symm⟩
    refine ⟨_, rfl, cst (mul_ints (mulw (by omega) (by decide)) ⟨_, rfl, add_ints (nl (Or.inl ⟨_, rfl, _, _, rfl, rfl, (show (0 : Int) < 1000000007 by decide), ?_⟩))⟩)⟩
    exact ⟨rfl, _, _, rfl, Int.emod_nonneg _ (by decide), Int.emod_lt_of_pos _ (by decide)⟩
  · rintro σ H' ⟨rfl, f, v, rfl, f0, f1⟩
    intro p hp
    have nap : ∀ l, (upd H' p (.dK [])) l = none → l ≠ p := fun l hl e => by rw [e, upd_same] at hl; cases hl
    have hs' : SqL K (upd H' p (.dK [])) a (ns.map V.int) := ex_l (ex_upd (Ex.refl _) hp) hs
    refine cst ⟨_, rfl, nl ⟨a, _, rfl, Or.inl hs', fun l hl => ?_⟩⟩
    have nl' := nap l hl
    refine cst (cst (cst (cst (cst (cst (cst ⟨_, rfl, ?_⟩))))))
    have e0 : (upd (upd H' p (.dK [])) l (.lst (ns.map V.int))) p = some (.dK []) := by rw [upd_ne (Ne.symm nl')]; exact upd_same
    refine ⟨e0, [(.inr "cells", .ref l), (.inr "at", .int 0), (.inr "digits", .int 0), (.inr "count", .int 0), (.inr "fold", .int f)], rfl, (show (5 : Nat) ≤ 15 by decide), ?_⟩
    rw [mk_pen]
    exact k p l f _ f0 f1 upd_same (by rw [upd_ne nl']; exact upd_same) nl'

/-! ### the law -/
def spLaw (K : PySem.W.Frag) : Sp := fun vs H Q _ => ∃ (a : Addr) (ns : List Int), vs = [.ref a] ∧ SqL K H a (ns.map V.int) ∧ ns.length ≤ 63 ∧ ∀ H', Q (.bl true) H'
/-- a pen as it stands when it is made -/
def Pen.new (π : Pen) : Prop := π.at_ = 0 ∧ π.digits = 0 ∧ π.count = 0 ∧ 0 ≤ π.fold ∧ π.fold < 1000000007
theorem law_ok {N : List Str} {k : Nat} {ms : Env → MM Out} {vs : List V} {H : Hp} {Q : VK} {E E' : XK} (hN : N.length = k + 2) (hb : Rs K cl t1 ms) (plain : ∀ π : Pen, π.new → ∃ π', ms (.un :: .sh .pen :: List.replicate k .un) π = some (.ret (.bl true), π'))
    (h : spLaw K vs H Q E) : (tSeq (tAsg (tCall (spPen K) [] E' (tCons (tVar 0) tNil)) (gName 1)) t1) { nx := fun _ H' => Q .non H', rt := Q } (L2.start N vs) H := by
  obtain ⟨a, ns, rfl, hs, hl, q⟩ := h
  have h0 : L2.start N [V.ref a] = some (.ref a) :: List.replicate (k + 1) none := by
    unfold L2.start
    rw [hN]; rfl
  rw [h0]
  refine ⟨_, rfl, a, ns, rfl, hs, fun p c f H' f0 f1 hp hc ncp => ?_⟩
  obtain ⟨π', hm⟩ := plain ⟨ns, 0, 0, 0, f⟩ ⟨rfl, rfl, rfl, f0, f1⟩
  refine hb ⟨p, c⟩ _ _ (fun x => if x = c then some (.lst (ns.map V.int)) else none) H' [] ⟨ns, 0, 0, 0, f⟩ _ π' _ ⟨fun x o hx => ?_, ?_, List.nodup_nil⟩ ⟨if_pos rfl, hp⟩ hm fun v H0' H'' P' s' r' => ?_
  · by_cases e : x = c
    · subst e
      rw [if_pos rfl] at hx
      cases hx
      rw [hid_ne (G := ⟨K, cl, ⟨p, x⟩⟩) ncp]; exact hc
    · rw [if_neg e] at hx; cases hx
  · refine ⟨_, _, [], [], rfl, rfl, rfl, ⟨some (.ref p), List.replicate k none, [], [], rfl, rfl, ⟨rfl, _, rfl, by simp only [Rep]⟩, EnvOk.start0 k⟩⟩
  · simp only [Rep] at r'
    subst r'
    exact q H''
end
end DL
set_option Elab.async false
set_option linter.all false
set_option maxRecDepth 100000
set_option maxHeartbeats 4000000
namespace DL
open PySem L2

section
variable {K : PySem.W.Frag} {cl : Nat → Addr} {i : Nat}
variable {b bi bo : Bool} {ta tb tc te to : TE} {ma mb mc me : Env → MM D} {loc : Env → MM (List Nat)}
/-- what stands at the end of a way into an owned thing, a leaf -/
def eAt (i : Nat) (loc : Env → MM (List Nat)) : Env → MM D := fun ρ => do
  let path ← loc ρ
  match (ownAt i ρ).bind (·.at path) with
  | some (.leaf d) => pure d
  | _ => fail
theorem rf_at (h : Rl K cl to i loc) : Rf K cl b to (eAt i loc) := by
  intro pa ρ σ H0 H F π d π' Q S P hm k
  obtain ⟨path, π1, e1, hm⟩ := mm_bind_some hm
  cases eo : ownAt i ρ with
  | none => rw [eo] at hm; cases hm
  | some m =>
  rw [eo] at hm
  simp only [Option.bind_some] at hm
  cases em : m.at path with
  | none => rw [em] at hm; cases hm
  | some m' =>
  rw [em] at hm
  cases m' with
  | leaf d' =>
    cases hm
    refine h pa ρ σ H0 H F π path π' m (.leaf d) Q S P e1 eo em fun v x H01 H1 s1 P1 hx hs => ?_
    have S1 := S.pure s1
    obtain ⟨x', v', Fb, q1, q2, _, q4, _⟩ := S1.mut P1 (ownAt_some eo) em
    rw [hx] at q1
    cases q1
    have ev := Sub.unique hs q2
    subst ev
    simp only [RepM] at q4
    exact k v H01 H1 s1 P1 (Rep.mono (pick_of0 s1.inn) q4.1)
  | _ => cases hm
abbrev rLeE : R2 := rI0 fun i j => .bl (decide (i ≤ j))
abbrev rIsE : R2 := fun x y H Q => y = .non ∧ Q (.bl (decide (x = .non))) H
abbrev rNotE : R2 := fun x y H Q => y = .non ∧ Q (.bl (!decide (x = .non))) H
/-- an expression whose value is never asked for -/
def eNever : Env → MM D := fun _ => fail
end
end DL
set_option Elab.async false
set_option linter.all false
set_option maxRecDepth 100000
set_option maxHeartbeats 4000000
namespace Lk65
open PySem L2 DL

/-! ### the text by places -/
def top (i : Nat) : Stmt := PySem.Challenge.pw_eventies_k65_whole_strongly_even_webs_ju.main.body.getD i (.Pass ⟨0, 0, 0, 0⟩)
abbrev s_is_integer : Stmt := top 6
abbrev s_is_row : Stmt := top 7
abbrev s_kept : Stmt := top 8
abbrev s_are_rows : Stmt := top 11
abbrev s_used : Stmt := top 12
abbrev s_Pairing_init : Stmt := inClass (top 13) 0
abbrev s_Pairing_eq : Stmt := inClass (top 13) 1
abbrev s_is_thing : Stmt := top 14
abbrev s_is_tie : Stmt := top 15
abbrev s_numbered : Stmt := top 17
abbrev s_of_web : Stmt := top 16
abbrev s_all_words : Stmt := top 19
abbrev s_Strong_init : Stmt := inClass (top 21) 0
abbrev s_Strong_eq : Stmt := inClass (top 21) 1
abbrev s_NotStrong_init : Stmt := inClass (top 22) 0
abbrev s_NotStrong_eq : Stmt := inClass (top 22) 1
abbrev s_tie_rows : Stmt := top 23
abbrev s_both_tied : Stmt := top 24
abbrev s_pair_sort : Stmt := top 25
abbrev s_settled_strong : Stmt := top 26
abbrev s_is_pair_of_things : Stmt := top 27
abbrev s_strong_fault : Stmt := top 28
abbrev s__law_pen : Stmt := top 30
abbrev s__law_draw : Stmt := top 31
abbrev s__law_pick : Stmt := top 32
abbrev s__law_shuffled : Stmt := top 33
abbrev s__law_e_lots : Stmt := top 34
abbrev s__law_e_words : Stmt := top 35
abbrev s__law_e_apart : Stmt := top 36
abbrev s__law_e_missing : Stmt := top 37
abbrev s__law_e_pairs : Stmt := top 38
abbrev s__law_e_some_web : Stmt := top 39
abbrev s__law_e_tied : Stmt := top 40
abbrev s__law_e_both : Stmt := top 41
abbrev s__law_e_strong : Stmt := top 42
abbrev s__law_e_is_pair : Stmt := top 43
abbrev s__law_due : Stmt := top 44
abbrev s__law_some_pair : Stmt := top 45
abbrev s_law : Stmt := top 46
/-! ### what must be seen of it -/
structure Ad where
  c_Pairing : Addr
  c_Strong : Addr
  c_NotStrong : Addr
  f_is_integer : Addr
  f_is_row : Addr
  f_kept : Addr
  f_are_rows : Addr
  f_used : Addr
  f_Pairing_init : Addr
  f_Pairing_eq : Addr
  f_is_thing : Addr
  f_is_tie : Addr
  f_numbered : Addr
  f_of_web : Addr
  f_all_words : Addr
  f_Strong_init : Addr
  f_Strong_eq : Addr
  f_NotStrong_init : Addr
  f_NotStrong_eq : Addr
  f_tie_rows : Addr
  f_both_tied : Addr
  f_pair_sort : Addr
  f_settled_strong : Addr
  f_is_pair_of_things : Addr
  f_strong_fault : Addr
  f__law_pen : Addr
  f__law_draw : Addr
  f__law_pick : Addr
  f__law_shuffled : Addr
  f__law_e_lots : Addr
  f__law_e_words : Addr
  f__law_e_apart : Addr
  f__law_e_missing : Addr
  f__law_e_pairs : Addr
  f__law_e_some_web : Addr
  f__law_e_tied : Addr
  f__law_e_both : Addr
  f__law_e_strong : Addr
  f__law_e_is_pair : Addr
  f__law_due : Addr
  f__law_some_pair : Addr
  f_law : Addr
def Ad.cl (A : Ad) : Nat → Addr
  | 0 => A.c_Pairing
  | 1 => A.c_Strong
  | 2 => A.c_NotStrong
  | _ => 0
def okc (c : Nat) (f : Str) : Bool := match c with
  | 0 => [("rows" : Str), ("many" : Str), ("kinds" : Str)].contains f
  | 1 => [("k" : Str), ("l" : Str), ("m" : Str)].contains f
  | 2 => [("one" : Str), ("other" : Str)].contains f
  | _ => false
structure Txt (K : PySem.W.Frag) (mg : Str → Option Value) (A : Ad) : Prop where
  ck : CK K A.cl 3
  hok : ∀ c f, okc c f = true → Cls K (A.cl c) ∧ NoAttr K (A.cl c) f
  nf : ∀ c c', c < 3 → c' < 3 → PySem.W.notFirst K (A.cl c) (.ref (A.cl c')) = true
  m_Pairing : mg "Pairing" = some (.ref (A.cl 0))
  mk_Pairing : Mk K (A.cl 0) A.f_Pairing_init
  oq_Pairing : OwnQ K (A.cl 0) A.f_Pairing_eq
  m_Strong : mg "Strong" = some (.ref (A.cl 1))
  mk_Strong : Mk K (A.cl 1) A.f_Strong_init
  oq_Strong : OwnQ K (A.cl 1) A.f_Strong_eq
  m_NotStrong : mg "NotStrong" = some (.ref (A.cl 2))
  mk_NotStrong : Mk K (A.cl 2) A.f_NotStrong_init
  oq_NotStrong : OwnQ K (A.cl 2) A.f_NotStrong_eq
  g_is_integer : mg "is_integer" = some (.ref A.f_is_integer)
  k_is_integer : PySem.W.keepIn K (.ref A.f_is_integer) = true
  g_is_row : mg "is_row" = some (.ref A.f_is_row)
  k_is_row : PySem.W.keepIn K (.ref A.f_is_row) = true
  g_kept : mg "kept" = some (.ref A.f_kept)
  k_kept : PySem.W.keepIn K (.ref A.f_kept) = true
  g_are_rows : mg "are_rows" = some (.ref A.f_are_rows)
  k_are_rows : PySem.W.keepIn K (.ref A.f_are_rows) = true
  g_used : mg "used" = some (.ref A.f_used)
  k_used : PySem.W.keepIn K (.ref A.f_used) = true
  g_is_thing : mg "is_thing" = some (.ref A.f_is_thing)
  k_is_thing : PySem.W.keepIn K (.ref A.f_is_thing) = true
  g_is_tie : mg "is_tie" = some (.ref A.f_is_tie)
  k_is_tie : PySem.W.keepIn K (.ref A.f_is_tie) = true
  g_numbered : mg "numbered" = some (.ref A.f_numbered)
  k_numbered : PySem.W.keepIn K (.ref A.f_numbered) = true
  g_of_web : mg "of_web" = some (.ref A.f_of_web)
  k_of_web : PySem.W.keepIn K (.ref A.f_of_web) = true
  g_all_words : mg "all_words" = some (.ref A.f_all_words)
  k_all_words : PySem.W.keepIn K (.ref A.f_all_words) = true
  g_tie_rows : mg "tie_rows" = some (.ref A.f_tie_rows)
  k_tie_rows : PySem.W.keepIn K (.ref A.f_tie_rows) = true
  g_both_tied : mg "both_tied" = some (.ref A.f_both_tied)
  k_both_tied : PySem.W.keepIn K (.ref A.f_both_tied) = true
  g_pair_sort : mg "pair_sort" = some (.ref A.f_pair_sort)
  k_pair_sort : PySem.W.keepIn K (.ref A.f_pair_sort) = true
  g_settled_strong : mg "settled_strong" = some (.ref A.f_settled_strong)
  k_settled_strong : PySem.W.keepIn K (.ref A.f_settled_strong) = true
  g_is_pair_of_things : mg "is_pair_of_things" = some (.ref A.f_is_pair_of_things)
  k_is_pair_of_things : PySem.W.keepIn K (.ref A.f_is_pair_of_things) = true
  g_strong_fault : mg "strong_fault" = some (.ref A.f_strong_fault)
  k_strong_fault : PySem.W.keepIn K (.ref A.f_strong_fault) = true
  g__law_pen : mg "_law_pen" = some (.ref A.f__law_pen)
  k__law_pen : PySem.W.keepIn K (.ref A.f__law_pen) = true
  g__law_draw : mg "_law_draw" = some (.ref A.f__law_draw)
  k__law_draw : PySem.W.keepIn K (.ref A.f__law_draw) = true
  g__law_pick : mg "_law_pick" = some (.ref A.f__law_pick)
  k__law_pick : PySem.W.keepIn K (.ref A.f__law_pick) = true
  g__law_shuffled : mg "_law_shuffled" = some (.ref A.f__law_shuffled)
  k__law_shuffled : PySem.W.keepIn K (.ref A.f__law_shuffled) = true
  g__law_e_lots : mg "_law_e_lots" = some (.ref A.f__law_e_lots)
  k__law_e_lots : PySem.W.keepIn K (.ref A.f__law_e_lots) = true
  g__law_e_words : mg "_law_e_words" = some (.ref A.f__law_e_words)
  k__law_e_words : PySem.W.keepIn K (.ref A.f__law_e_words) = true
  g__law_e_apart : mg "_law_e_apart" = some (.ref A.f__law_e_apart)
  k__law_e_apart : PySem.W.keepIn K (.ref A.f__law_e_apart) = true
  g__law_e_missing : mg "_law_e_missing" = some (.ref A.f__law_e_missing)
  k__law_e_missing : PySem.W.keepIn K (.ref A.f__law_e_missing) = true
  g__law_e_pairs : mg "_law_e_pairs" = some (.ref A.f__law_e_pairs)
  k__law_e_pairs : PySem.W.keepIn K (.ref A.f__law_e_pairs) = true
  g__law_e_some_web : mg "_law_e_some_web" = some (.ref A.f__law_e_some_web)
  k__law_e_some_web : PySem.W.keepIn K (.ref A.f__law_e_some_web) = true
  g__law_e_tied : mg "_law_e_tied" = some (.ref A.f__law_e_tied)
  k__law_e_tied : PySem.W.keepIn K (.ref A.f__law_e_tied) = true
  g__law_e_both : mg "_law_e_both" = some (.ref A.f__law_e_both)
  k__law_e_both : PySem.W.keepIn K (.ref A.f__law_e_both) = true
  g__law_e_strong : mg "_law_e_strong" = some (.ref A.f__law_e_strong)
  k__law_e_strong : PySem.W.keepIn K (.ref A.f__law_e_strong) = true
  g__law_e_is_pair : mg "_law_e_is_pair" = some (.ref A.f__law_e_is_pair)
  k__law_e_is_pair : PySem.W.keepIn K (.ref A.f__law_e_is_pair) = true
  g__law_due : mg "_law_due" = some (.ref A.f__law_due)
  k__law_due : PySem.W.keepIn K (.ref A.f__law_due) = true
  g__law_some_pair : mg "_law_some_pair" = some (.ref A.f__law_some_pair)
  k__law_some_pair : PySem.W.keepIn K (.ref A.f__law_some_pair) = true
  g_law : mg "law" = some (.ref A.f_law)
  k_law : PySem.W.keepIn K (.ref A.f_law) = true
  g_MOST_THINGS : ∃ t, mg "MOST_THINGS" = some (.int 32 t)
  b_all : mg "all" = none
  b_any : mg "any" = none
  b_bool : mg "bool" = none
  b_enumerate : mg "enumerate" = none
  b_int : mg "int" = none
  b_isinstance : mg "isinstance" = none
  b_len : mg "len" = none
  b_list : mg "list" = none
  b_max : mg "max" = none
  b_range : mg "range" = none
  b_set : mg "set" = none
  b_sorted : mg "sorted" = none
  b_sum : mg "sum" = none
  b_tuple : mg "tuple" = none
  b_zip : mg "zip" = none
def m_is_integer : List D → MM D := runD 1 ((sRet (eAnd (eCall (dIsi 3) (aCons (eVar 0) (aCons (eC (.ty "int")) aNil))) (eNot (eCall (dIsi 3) (aCons (eVar 0) (aCons (eC (.ty "bool")) aNil)))))))
def m_is_row : List D → MM D := runD 1 ((sRet (eCall (dIsi 3) (aCons (eVar 0) (aCons (eTup (aCons (eC (.ty "list")) (aCons (eC (.ty "tuple")) aNil))) aNil)))))
def m_kept : Nat → List D → MM D
  | 0 => fun _ => fail
  | j + 1 => runD 2 ((sRet (eIf (tBool (eDef 1 m_is_row (aCons (eVar 0) aNil))) (eTuple (eFr (oLc (itS (eVar 0)) (gNm 1) tYes' (oLeaf (eDef 1 (m_kept j) (aCons (eVar 1) aNil))) [1]))) (eVar 0))))
def m_are_rows : List D → MM D := runD 3 ((sSeq (sIf (tOr' (tNot' (tBool (eDef 1 m_is_row (aCons (eVar 0) aNil)))) (tNot' (tBool (eChain dLe dLe (eC (.int 1)) (eCall dLen (aCons (eVar 0) aNil)) (eC (.int 32)))))) (sRet (eC (.bl false))) sNext)
    (sSeq (sIf (tNot' (tBool (eCall dAll (aCons (eFr (oLc (itS (eVar 0)) (gNm 1) tYes' (oLeaf (eAnd (eDef 1 m_is_row (aCons (eVar 1) aNil)) (eBin dEq (eCall dLen (aCons (eVar 1) aNil)) (eCall dLen (aCons (eVar 0) aNil))))) [1])) aNil)))) (sRet (eC (.bl false))) sNext)
    (sRet (eCall dAll (aCons (eFr (oLc2 (itS (eVar 0)) (gNm 1) tYes' (itS (eVar 1)) (gNm 2) tYes' (oLeaf (eAnd (eDef 1 m_is_integer (aCons (eVar 2) aNil)) (eBin dGe (eVar 2) (eC (.int 0))))) [1, 2] [2])) aNil))))))
def m_used : List D → MM D := runD 3 ((sRet (eFr (oSortSet (eFr (oLc2 (itS (eVar 0)) (gNm 1) tYes' (itS (eVar 1)) (gNm 2) tYes' (oLeaf (eVar 2)) [1, 2] [2]))))))
def m_Pairing_init : List D → MM D := runI 4 ((jNot (tNot' (tBool (eDef 1 m_are_rows (aCons (eVar 1) aNil))))
    (jAsg 2 (eDef 1 m_used (aCons (eVar 1) aNil))
    (jNot (tBool (eBin dNe (eVar 2) (eFr (oRg1 (eCall dLen (aCons (eVar 2) aNil))))))
    (jFld "rows" (eTuple (eFr (oLc (itS (eVar 1)) (gNm 3) tYes' (oLeaf (eTuple (eVar 3))) [3])))
    (jFld "many" (eCall dLen (aCons (eVar 1) aNil))
    (jFld "kinds" (eCall dLen (aCons (eVar 2) aNil))
    (jEnd 0))))))))
def m_Pairing_eq : List D → MM D := runD 2 ((sRet (eAnd (eCall (dIsi 3) (aCons (eVar 1) (aCons (eC (.cls 0)) aNil))) (eBin dEq (eFld okc "rows" (eVar 0)) (eFld okc "rows" (eVar 1))))))
def m_is_thing : List D → MM D := runD 2 ((sRet (eAnd (eDef 1 m_is_integer (aCons (eVar 1) aNil)) (eChain dLe dLt (eC (.int 0)) (eVar 1) (eVar 0)))))
def m_is_tie : List D → MM D := runD 2 ((sSeq (sIf (tOr' (tNot' (tBool (eCall (dIsi 3) (aCons (eVar 1) (aCons (eC (.ty "tuple")) aNil))))) (tBool (eBin dNe (eCall dLen (aCons (eVar 1) aNil)) (eC (.int 2))))) (sRet (eC (.bl false))) sNext)
    (sRet (eAnd (eDef 2 m_is_thing (aCons (eVar 0) (aCons (eBin dSub2 (eVar 1) (eC (.int 0))) aNil))) (eAnd (eDef 2 m_is_thing (aCons (eVar 0) (aCons (eBin dSub2 (eVar 1) (eC (.int 1))) aNil))) (eBin dNe (eBin dSub2 (eVar 1) (eC (.int 0))) (eBin dSub2 (eVar 1) (eC (.int 1)))))))))
def m_numbered : List D → MM D := runD 4 ((sSeq (sOwn 1 oDK)
    (sSeq (sFor (itS (eDef 1 m_used (aCons (eVar 0) aNil))) (gNm 2) (sAsgG (gSet 1 lHere (eVar 2)) (eAll (eCall dLen (aCons (eVar 1) aNil)))))
    (sRet (eDef 1 m_Pairing_init (aCons (eFr (oLc (itS (eVar 0)) (gNm 3) tYes' (oLeaf (eFr (oLc (itS (eVar 3)) (gNm 2) tYes' (oLeaf (eAt 1 (lIx 1 lHere (eVar 2)))) [2]))) [3])) aNil))))))
def m_of_web : List D → MM D := runD 7 ((sSeq (sIf (tOr' (tNot' (tBool (eDef 1 m_is_integer (aCons (eVar 0) aNil)))) (tNot' (tBool (eChain dLe dLe (eC (.int 1)) (eVar 0) (eC (.int 32)))))) sNever sNext)
    (sSeq (sIf (tNot' (tBool (eDef 1 m_is_row (aCons (eVar 1) aNil)))) sNever sNext)
    (sSeq (sFor (itE (aCons (eVar 1) aNil)) (gTp 2 (gsC (gNm 2) (gsC (gNm 3) gsN))) (sIf (tNot' (tBool (eDef 2 m_is_tie (aCons (eVar 0) (aCons (eVar 3) aNil))))) sNever sNext))
    (sSeq (sOwn 6 (oLc (itR1 (aCons (eVar 0) aNil)) (gNm 4) tYes' (oLc (itR1 (aCons (eVar 0) aNil)) (gNm 5) tYes' (oLeaf (eIf (tBool (eBin dEq (eVar 4) (eVar 5))) (eC (.int 0)) (eC (.int 2)))) [5]) [4]))
    (sSeq (sFor (itS (eVar 1)) (gTp 2 (gsC (gNm 4) (gsC (gNm 5) gsN))) (sAsgG (gTp 2 (gsC (gSet 6 (lIx 6 lHere (eVar 4)) (eVar 5)) (gsC (gSet 6 (lIx 6 lHere (eVar 5)) (eVar 4)) gsN))) (eTup (aCons (eC (.int 1)) (aCons (eC (.int 1)) aNil)))))
    (sFrz 6 (sRet (eDef 1 m_numbered (aCons (eVar 6) aNil))))))))))
def m_all_words : List D → MM D := runD 6 ((sSeq (sAsg 2 (eFr (oLst (aCons (eTup aNil) aNil))))
    (sSeq (sFor (itR1 (aCons (eVar 0) aNil)) (gNm 3) (sAsg 2 (eFr (oLc2 (itS (eVar 2)) (gNm 4) tYes' (itR1 (aCons (eVar 1) aNil)) (gNm 5) tYes' (oLeaf (eBin dAdd (eVar 4) (eTup (aCons (eVar 5) aNil)))) [4, 5] [5]))))
    (sRet (eVar 2)))))
def m_Strong_init : List D → MM D := runI 4 ((jFld "k" (eVar 1)
    (jFld "l" (eVar 2)
    (jFld "m" (eVar 3)
    (jEnd 1)))))
def m_Strong_eq : List D → MM D := runD 2 ((sRet (eAnd (eCall (dIsi 3) (aCons (eVar 1) (aCons (eC (.cls 1)) aNil))) (eBin dEq (eTup (aCons (eFld okc "k" (eVar 0)) (aCons (eFld okc "l" (eVar 0)) (aCons (eFld okc "m" (eVar 0)) aNil)))) (eTup (aCons (eFld okc "k" (eVar 1)) (aCons (eFld okc "l" (eVar 1)) (aCons (eFld okc "m" (eVar 1)) aNil))))))))
def m_NotStrong_init : List D → MM D := runI 3 ((jFld "one" (eDef 1 (m_kept 3) (aCons (eVar 1) aNil))
    (jFld "other" (eDef 1 (m_kept 3) (aCons (eVar 2) aNil))
    (jEnd 2))))
def m_NotStrong_eq : List D → MM D := runD 2 ((sRet (eAnd (eCall (dIsi 3) (aCons (eVar 1) (aCons (eC (.cls 2)) aNil))) (eBin dEq (eTup (aCons (eFld okc "one" (eVar 0)) (aCons (eFld okc "other" (eVar 0)) aNil))) (eTup (aCons (eFld okc "one" (eVar 1)) (aCons (eFld okc "other" (eVar 1)) aNil)))))))
def m_tie_rows : List D → MM D := runD 5 ((sSeq (sDrop (eDef 2 m_of_web (aCons (eVar 0) (aCons (eVar 1) aNil))))
    (sSeq (sOwn 3 (oLc (itR1 (aCons (eVar 0) aNil)) (gNm 2) tYes' (oMul (oLst (aCons (eC (.int 0)) aNil)) (eVar 0)) [2]))
    (sSeq (sFor (itS (eVar 1)) (gTp 2 (gsC (gNm 2) (gsC (gNm 4) gsN))) (sAsgG (gTp 2 (gsC (gSet 3 (lIx 3 lHere (eVar 2)) (eVar 4)) (gsC (gSet 3 (lIx 3 lHere (eVar 4)) (eVar 2)) gsN))) (eTup (aCons (eC (.int 1)) (aCons (eC (.int 1)) aNil)))))
    (sFrz 3 (sRet (eVar 3)))))))
def m_both_tied : List D → MM D := runD 4 ((sRet (eCall dSum (aCons (eFr (oLc (itZ (aCons (eBin dSub2 (eVar 0) (eBin dSub2 (eVar 1) (eC (.int 0)))) (aCons (eBin dSub2 (eVar 0) (eBin dSub2 (eVar 1) (eC (.int 1)))) aNil))) (gTp 2 (gsC (gNm 2) (gsC (gNm 3) gsN))) tYes' (oLeaf (eBin dMul (eVar 2) (eVar 3))) [2, 3])) aNil))))
def m_pair_sort : List D → MM D := runD 2 ((sRet (eIf (tBool (eBin dEq (eBin dSub2 (eVar 1) (eC (.int 0))) (eBin dSub2 (eVar 1) (eC (.int 1))))) (eC (.int 0)) (eBin dSub (eC (.int 2)) (eBin dSub2 (eBin dSub2 (eVar 0) (eBin dSub2 (eVar 1) (eC (.int 0)))) (eBin dSub2 (eVar 1) (eC (.int 1))))))))
def m_settled_strong : List D → MM D := runD 5 ((sSeq (sOwn 1 oDK)
    (sSeq (sFor (itS (eDef 2 m_all_words (aCons (eC (.int 2)) (aCons (eCall dLen (aCons (eVar 0) aNil)) aNil)))) (gNm 2) (sSeq (sAsg 3 (eDef 2 m_pair_sort (aCons (eVar 0) (aCons (eVar 2) aNil))))
    (sSeq (sIf (tAnd' (tBool (eAll (eInD false (eVar 3) (eVar 1)))) (tBool (eBin dNe (eDef 2 m_both_tied (aCons (eVar 0) (aCons (eAt 1 (lIx 1 lHere (eVar 3))) aNil))) (eDef 2 m_both_tied (aCons (eVar 0) (aCons (eVar 2) aNil)))))) (sRet (eDef 2 m_NotStrong_init (aCons (eAt 1 (lIx 1 lHere (eVar 3))) (aCons (eVar 2) aNil)))) sNext)
    (sIf (tBool (eAll (eInD true (eVar 3) (eVar 1)))) (sAsgG (gSet 1 lHere (eVar 3)) (eVar 2)) sNext))))
    (sSeq (sAsg 4 (eFr (oLc (itR1 (aCons (eC (.int 3)) aNil)) (gNm 3) tYes' (oLeaf (eIf (tBool (eAll (eInD false (eVar 3) (eVar 1)))) (eDef 2 m_both_tied (aCons (eVar 0) (aCons (eAt 1 (lIx 1 lHere (eVar 3))) aNil))) (eC .non))) [3])))
    (sRet (eDef 3 m_Strong_init (aCons (eBin dSub2 (eVar 4) (eC (.int 0))) (aCons (eBin dSub2 (eVar 4) (eC (.int 1))) (aCons (eBin dSub2 (eVar 4) (eC (.int 2))) aNil)))))))))
def m_is_pair_of_things : List D → MM D := runD 3 ((sRet (eAnd (eCall (dIsi 3) (aCons (eVar 1) (aCons (eC (.ty "tuple")) aNil))) (eAnd (eBin dEq (eCall dLen (aCons (eVar 1) aNil)) (eC (.int 2))) (eCall dAll (aCons (eFr (oLc (itS (eVar 1)) (gNm 2) tYes' (oLeaf (eDef 2 m_is_thing (aCons (eVar 0) (aCons (eVar 2) aNil)))) [2])) aNil))))))
def m_strong_fault : List D → MM D := runD 7 ((sSeq (sAsg 3 (eDef 2 m_tie_rows (aCons (eVar 0) (aCons (eVar 1) aNil))))
    (sSeq (sAsg 4 (eDef 1 m_settled_strong (aCons (eVar 3) aNil)))
    (sSeq (sIf (tBool (eCall (dIsi 3) (aCons (eVar 2) (aCons (eC (.cls 1)) aNil)))) (sSeq (sIf (tBool (eCall (dIsi 3) (aCons (eVar 4) (aCons (eC (.cls 2)) aNil)))) (sRet (eTup (aCons (eC (.str "strong")) aNil))) sNext)
    (sSeq (sAsg 5 (eTup (aCons (eFld okc "k" (eVar 2)) (aCons (eFld okc "l" (eVar 2)) (aCons (eFld okc "m" (eVar 2)) aNil)))))
    (sRet (eIf (tAnd' (tBool (eOwn 3 1 false m_Strong_eq (eVar 2) (eVar 4))) (tNot' (tBool (eCall dAny (aCons (eFr (oLc (itS (eVar 5)) (gNm 6) tYes' (oLeaf (eCall (dIsi 3) (aCons (eVar 6) (aCons (eC (.ty "bool")) aNil)))) [6])) aNil))))) (eC .non) (eTup (aCons (eC (.str "numbers")) aNil)))))) sNext)
    (sSeq (sIf (tNot' (tBool (eCall (dIsi 3) (aCons (eVar 2) (aCons (eC (.cls 2)) aNil))))) (sRet (eTup (aCons (eC (.str "answer")) aNil))) sNext)
    (sSeq (sIf (tNot' (tBool (eDef 2 m_is_pair_of_things (aCons (eVar 0) (aCons (eFld okc "one" (eVar 2)) aNil))))) (sRet (eTup (aCons (eC (.str "one")) aNil))) sNext)
    (sSeq (sIf (tNot' (tBool (eDef 2 m_is_pair_of_things (aCons (eVar 0) (aCons (eFld okc "other" (eVar 2)) aNil))))) (sRet (eTup (aCons (eC (.str "other")) aNil))) sNext)
    (sSeq (sIf (tBool (eBin dNe (eDef 2 m_pair_sort (aCons (eVar 3) (aCons (eFld okc "one" (eVar 2)) aNil))) (eDef 2 m_pair_sort (aCons (eVar 3) (aCons (eFld okc "other" (eVar 2)) aNil))))) (sRet (eTup (aCons (eC (.str "sort")) aNil))) sNext)
    (sRet (eIf (tBool (eBin dNe (eDef 2 m_both_tied (aCons (eVar 3) (aCons (eFld okc "one" (eVar 2)) aNil))) (eDef 2 m_both_tied (aCons (eVar 3) (aCons (eFld okc "other" (eVar 2)) aNil))))) (eC .non) (eTup (aCons (eC (.str "alike")) aNil))))))))))))
def m__law_pick : List D → MM D := runD 2 ((sRet (eBin dSub2 (eVar 1) (eDraw (aCons (eVar 0) (aCons (eCall dLen (aCons (eVar 1) aNil)) aNil))))))
def m__law_shuffled : List D → MM D := runD 5 ((sSeq (sParO 2 3 (oaCons (oListA (aCons (eVar 1) aNil)) (oaCons (oLst aNil) oaNil)))
    (sSeq (sFor (itR1 (aCons (eCall dLen (aCons (eVar 1) aNil)) aNil)) (gNm 4) (sAppPop 3 2 (eDraw (aCons (eVar 0) (aCons (eAll (eCall dLen (aCons (eVar 2) aNil))) aNil)))))
    (sFrz 3 (sRet (eVar 3))))))
def m__law_e_lots : List D → MM D := runD 8 ((sSeq (sAsg 2 (eFr (oLst (aCons (eTup aNil) aNil))))
    (sSeq (sFor (itR1 (aCons (eVar 1) aNil)) (gNm 3) (sSeq (sAsg 4 (eFr (oLst aNil)))
    (sSeq (sFor (itS (eVar 2)) (gNm 5) (sSeq (sAsg 6 (eIf (tBool (eBin dNe (eVar 5) (eTup aNil))) (eBin dAdd (eBin dSub2 (eVar 5) (eUn dNeg (eC (.int 1)))) (eC (.int 1))) (eC (.int 0))))
    (sAsg 4 (eBin dAdd (eVar 4) (eFr (oLc (itR2 (aCons (eVar 6) (aCons (eVar 0) aNil))) (gNm 7) tYes' (oLeaf (eBin dAdd (eVar 5) (eTup (aCons (eVar 7) aNil)))) [7]))))))
    (sAsg 2 (eVar 4)))))
    (sRet (eVar 2)))))
def m__law_e_words : List D → MM D := runD 7 ((sSeq (sAsg 2 (eFr (oLst (aCons (eTup aNil) aNil))))
    (sSeq (sFor (itR1 (aCons (eVar 0) aNil)) (gNm 3) (sSeq (sAsg 4 (eFr (oLst aNil)))
    (sSeq (sFor (itS (eVar 2)) (gNm 5) (sAsg 4 (eBin dAdd (eVar 4) (eFr (oLc (itR1 (aCons (eVar 1) aNil)) (gNm 6) tYes' (oLeaf (eBin dAdd (eVar 5) (eTup (aCons (eVar 6) aNil)))) [6])))))
    (sAsg 2 (eVar 4)))))
    (sRet (eVar 2)))))
def m__law_e_apart : List D → MM D := runD 4 ((sRet (eCall dLen (aCons (eFr (oLc (itZ (aCons (eVar 0) (aCons (eVar 1) aNil))) (gTp 2 (gsC (gNm 2) (gsC (gNm 3) gsN))) (tBool (eBin dNe (eVar 2) (eVar 3))) (oLeaf (eC (.int 1))) [2, 3])) aNil))))
def m__law_e_missing : List D → MM D := runD 3 ((sRet (eCall dLen (aCons (eFr (oLc (itS (eVar 0)) (gNm 2) (tBool (eBin dNotIn (eVar 2) (eVar 1))) (oLeaf (eVar 2)) [2])) aNil))))
def m__law_e_pairs : List D → MM D := runD 4 ((sSeq (sAsg 1 (eFr (oLst aNil)))
    (sSeq (sFor (itR1 (aCons (eVar 0) aNil)) (gNm 2) (sAsg 1 (eBin dAdd (eVar 1) (eFr (oLc (itR1 (aCons (eVar 2) aNil)) (gNm 3) tYes' (oLeaf (eTup (aCons (eVar 2) (aCons (eVar 3) aNil)))) [3])))))
    (sRet (eVar 1)))))
def m__law_e_some_web : List D → MM D := runD 13 ((sSeq (sAsg 1 (eDraw (aCons (eVar 0) (aCons (eC (.int 8)) aNil))))
    (sSeq (sIf (tBool (eBin dEq (eVar 1) (eC (.int 0)))) (sSeq (sAsg 2 (eDef 2 m__law_e_lots (aCons (eDef 2 m__law_pick (aCons (eVar 0) (aCons (eFr (oLst (aCons (eC (.int 3)) (aCons (eC (.int 4)) (aCons (eC (.int 5)) aNil))))) aNil))) (aCons (eC (.int 2)) aNil))))
    (sAsg 3 (eFr (oLc (itS (eDef 1 m__law_e_pairs (aCons (eCall dLen (aCons (eVar 2) aNil)) aNil))) (gTp 2 (gsC (gNm 10) (gsC (gNm 11) gsN))) (tBool (eBin dEq (eDef 2 m__law_e_missing (aCons (eBin dSub2 (eVar 2) (eVar 10)) (aCons (eBin dSub2 (eVar 2) (eVar 11)) aNil))) (eC (.int 1)))) (oLeaf (eTup (aCons (eVar 10) (aCons (eVar 11) aNil)))) [10, 11])))) (sIf (tBool (eBin dEq (eVar 1) (eC (.int 1)))) (sSeq (sAsg 2 (eDef 2 m__law_e_words (aCons (eC (.int 2)) (aCons (eDef 2 m__law_pick (aCons (eVar 0) (aCons (eFr (oLst (aCons (eC (.int 2)) (aCons (eC (.int 3)) aNil)))) aNil))) aNil))))
    (sAsg 3 (eFr (oLc (itS (eDef 1 m__law_e_pairs (aCons (eCall dLen (aCons (eVar 2) aNil)) aNil))) (gTp 2 (gsC (gNm 10) (gsC (gNm 11) gsN))) (tBool (eBin dEq (eDef 2 m__law_e_apart (aCons (eBin dSub2 (eVar 2) (eVar 10)) (aCons (eBin dSub2 (eVar 2) (eVar 11)) aNil))) (eC (.int 1)))) (oLeaf (eTup (aCons (eVar 10) (aCons (eVar 11) aNil)))) [10, 11])))) (sIf (tBool (eBin dEq (eVar 1) (eC (.int 2)))) (sSeq (sAsg 2 (eFr (oRg1 (eC (.int 5)))))
    (sAsg 3 (eFr (oLc (itS (eVar 2)) (gNm 10) tYes' (oLeaf (eTup (aCons (eVar 10) (aCons (eBin dMod (eCall dInt (aCons (eBin dAdd (eVar 10) (eC (.int 1))) aNil)) (eC (.int 5))) aNil)))) [10])))) (sIf (tBool (eBin dEq (eVar 1) (eC (.int 3)))) (sSeq (sAsg 2 (eDef 2 m__law_e_lots (aCons (eC (.int 5)) (aCons (eC (.int 2)) aNil))))
    (sAsg 3 (eFr (oLc (itS (eDef 1 m__law_e_pairs (aCons (eC (.int 10)) aNil))) (gTp 2 (gsC (gNm 10) (gsC (gNm 11) gsN))) (tBool (eBin dEq (eDef 2 m__law_e_missing (aCons (eBin dSub2 (eVar 2) (eVar 10)) (aCons (eBin dSub2 (eVar 2) (eVar 11)) aNil))) (eC (.int 2)))) (oLeaf (eTup (aCons (eVar 10) (aCons (eVar 11) aNil)))) [10, 11])))) (sIf (tBool (eBin dEq (eVar 1) (eC (.int 4)))) (sSeq (sAsgG (gTp 2 (gsC (gNm 4) (gsC (gNm 5) gsN))) (eDef 2 m__law_pick (aCons (eVar 0) (aCons (eFr (oLst (aCons (eTup (aCons (eC (.int 2)) (aCons (eC (.int 2)) aNil))) (aCons (eTup (aCons (eC (.int 2)) (aCons (eC (.int 3)) aNil))) (aCons (eTup (aCons (eC (.int 3)) (aCons (eC (.int 2)) aNil))) (aCons (eTup (aCons (eC (.int 3)) (aCons (eC (.int 3)) aNil))) (aCons (eTup (aCons (eC (.int 1)) (aCons (eC (.int 5)) aNil))) (aCons (eTup (aCons (eC (.int 4)) (aCons (eC (.int 1)) aNil))) (aCons (eTup (aCons (eC (.int 2)) (aCons (eC (.int 4)) aNil))) aNil))))))))) aNil))))
    (sSeq (sAsg 2 (eFr (oRg1 (eBin dMul (eVar 4) (eVar 5)))))
    (sAsg 3 (eFr (oLc (itS (eDef 1 m__law_e_pairs (aCons (eBin dMul (eVar 4) (eVar 5)) aNil))) (gTp 2 (gsC (gNm 10) (gsC (gNm 11) gsN))) (tBool (eBin dEq (eBin dEq (eBin dFdiv (eVar 10) (eVar 4)) (eBin dFdiv (eVar 11) (eVar 4))) (eBin dLt (eVar 5) (eC (.int 3))))) (oLeaf (eTup (aCons (eVar 10) (aCons (eVar 11) aNil)))) [10, 11]))))) (sSeq (sAsg 2 (eFr (oRg1 (eBin dAdd (eC (.int 1)) (eDraw (aCons (eVar 0) (aCons (eC (.int 8)) aNil)))))))
    (sAsg 3 (eFr (oLc (itS (eDef 1 m__law_e_pairs (aCons (eCall dLen (aCons (eVar 2) aNil)) aNil))) (gTp 2 (gsC (gNm 10) (gsC (gNm 11) gsN))) (tBool (eBin dEq (eDraw (aCons (eVar 0) (aCons (eC (.int 2)) aNil))) (eC (.int 0)))) (oLeaf (eTup (aCons (eVar 10) (aCons (eVar 11) aNil)))) [10, 11])))))))))
    (sSeq (sAsgG (gTp 2 (gsC (gNm 6) (gsC (gNm 7) gsN))) (eTup (aCons (eCall dLen (aCons (eVar 2) aNil)) (aCons (eDef 2 m__law_shuffled (aCons (eVar 0) (aCons (eFr (oRg1 (eCall dLen (aCons (eVar 2) aNil)))) aNil))) aNil))))
    (sSeq (sAsg 3 (eFr (oLc (itS (eVar 3)) (gTp 2 (gsC (gNm 10) (gsC (gNm 11) gsN))) tYes' (oLeaf (eTup (aCons (eBin dSub2 (eVar 7) (eVar 10)) (aCons (eBin dSub2 (eVar 7) (eVar 11)) aNil)))) [10, 11])))
    (sSeq (sIf (tAnd' (tBool (eBin dEq (eDraw (aCons (eVar 0) (aCons (eC (.int 3)) aNil))) (eC (.int 0)))) (tBool (eBin dGt (eVar 6) (eC (.int 1))))) (sSeq (sAsg 8 (eTuple (eSl (eDef 2 m__law_shuffled (aCons (eVar 0) (aCons (eFr (oRg1 (eVar 6))) aNil))) oNo (oYes (eC (.int 2))))))
    (sSeq (sAsg 9 (eFr (oLc (itS (eVar 3)) (gNm 12) (tBool (eBin dNotIn (eVar 12) (eFr (oLst (aCons (eVar 8) (aCons (eBack (eVar 8)) aNil)))))) (oLeaf (eVar 12)) [12])))
    (sAsg 3 (eIf (tBool (eBin dLt (eCall dLen (aCons (eVar 9) aNil)) (eCall dLen (aCons (eVar 3) aNil)))) (eVar 9) (eBin dAdd (eVar 3) (eFr (oLst (aCons (eVar 8) aNil)))))))) sNext)
    (sRet (eTup (aCons (eVar 6) (aCons (eDef 2 m__law_shuffled (aCons (eVar 0) (aCons (eVar 3) aNil))) aNil))))))))))
def m__law_e_tied : List D → MM D := runD 5 ((sSeq (sOwn 3 (oLc (itR1 (aCons (eVar 0) aNil)) (gNm 2) tYes' (oMul (oLst (aCons (eC (.int 0)) aNil)) (eVar 0)) [2]))
    (sSeq (sFor (itS (eVar 1)) (gTp 2 (gsC (gNm 2) (gsC (gNm 4) gsN))) (sAsgG (gTp 2 (gsC (gSet 3 (lIx 3 lHere (eVar 2)) (eVar 4)) (gsC (gSet 3 (lIx 3 lHere (eVar 4)) (eVar 2)) gsN))) (eTup (aCons (eC (.int 1)) (aCons (eC (.int 1)) aNil)))))
    (sFrz 3 (sRet (eVar 3))))))
def m__law_e_both : List D → MM D := runD 4 ((sRet (eCall dLen (aCons (eFr (oLc (itR1 (aCons (eCall dLen (aCons (eVar 0) aNil)) aNil)) (gNm 3) (tAnd' (tBool (eBin dEq (eBin dSub2 (eBin dSub2 (eVar 0) (eVar 1)) (eVar 3)) (eC (.int 1)))) (tBool (eBin dEq (eBin dSub2 (eBin dSub2 (eVar 0) (eVar 2)) (eVar 3)) (eC (.int 1))))) (oLeaf (eVar 3)) [3])) aNil))))
def m__law_e_strong : List D → MM D := runD 7 ((sSeq (sParO 2 3 (oaCons (oLeaf (eDef 2 m__law_e_tied (aCons (eVar 0) (aCons (eVar 1) aNil)))) (oaCons (oLstO (oaCons oDK (oaCons oDK (oaCons oDK oaNil)))) oaNil)))
    (sSeq (sFor (itR1 (aCons (eVar 0) aNil)) (gNm 4) (sFor (itR1 (aCons (eVar 0) aNil)) (gNm 5) (sAsgG (gSet 3 (lIx 3 lHere (eIf (tBool (eBin dEq (eVar 4) (eVar 5))) (eC (.int 0)) (eBin dSub (eC (.int 2)) (eBin dSub2 (eBin dSub2 (eVar 2) (eVar 4)) (eVar 5))))) (eDef 3 m__law_e_both (aCons (eVar 2) (aCons (eVar 4) (aCons (eVar 5) aNil))))) (eC (.bl true)))))
    (sFrz 3 (sSeq (sIf (tBool (eBin dGt (eCall dMax (aCons (eFr (oLc (itS (eVar 3)) (gNm 6) tYes' (oLeaf (eCall dLen (aCons (eVar 6) aNil))) [6])) aNil)) (eC (.int 1)))) (sRet (eC .non)) sNext)
    (sRet (eTuple (eFr (oLc (itS (eVar 3)) (gNm 6) tYes' (oLeaf (eIf (tBool (eBin dGt (eCall dLen (aCons (eVar 6) aNil)) (eC (.int 0)))) (eBin dSub2 (eFr (oListA (aCons (eVar 6) aNil))) (eC (.int 0))) (eC .non))) [6])))))))))
def m__law_e_is_pair : List D → MM D := runD 3 ((sSeq (sIf (tOr' (tNot' (tBool (eCall (dIsi 3) (aCons (eVar 1) (aCons (eC (.ty "tuple")) aNil))))) (tBool (eBin dNe (eCall dLen (aCons (eVar 1) aNil)) (eC (.int 2))))) (sRet (eC (.bl false))) sNext)
    (sRet (eBin dEq (eFr (oLc (itS (eVar 1)) (gNm 2) (tOr' (tNot' (tBool (eCall (dIsi 3) (aCons (eVar 2) (aCons (eC (.ty "int")) aNil))))) (tOr' (tBool (eCall (dIsi 3) (aCons (eVar 2) (aCons (eC (.ty "bool")) aNil)))) (tNot' (tBool (eChain dLe dLt (eC (.int 0)) (eVar 2) (eVar 0)))))) (oLeaf (eC (.int 1))) [2])) (eFr (oLst aNil))))))
def m__law_due : List D → MM D := runD 8 ((sSeq (sAsg 3 (eDef 2 m__law_e_tied (aCons (eVar 0) (aCons (eVar 1) aNil))))
    (sSeq (sIf (tNot' (tBool (eDef 2 m__law_e_is_pair (aCons (eVar 0) (aCons (eBin dSub2 (eVar 2) (eC (.int 0))) aNil))))) (sRet (eTup (aCons (eC (.str "one")) aNil))) sNext)
    (sSeq (sIf (tNot' (tBool (eDef 2 m__law_e_is_pair (aCons (eVar 0) (aCons (eBin dSub2 (eVar 2) (eC (.int 1))) aNil))))) (sRet (eTup (aCons (eC (.str "other")) aNil))) sNext)
    (sSeq (sAsg 4 (eFr (oLc (itS (eVar 2)) (gTp 2 (gsC (gNm 6) (gsC (gNm 7) gsN))) tYes' (oLeaf (eIf (tBool (eBin dEq (eVar 6) (eVar 7))) (eC (.int 0)) (eBin dSub (eC (.int 2)) (eBin dSub2 (eBin dSub2 (eVar 3) (eVar 6)) (eVar 7))))) [6, 7])))
    (sSeq (sIf (tBool (eBin dNe (eBin dSub2 (eVar 4) (eC (.int 0))) (eBin dSub2 (eVar 4) (eC (.int 1))))) (sRet (eTup (aCons (eC (.str "sort")) aNil))) sNext)
    (sSeq (sAsg 5 (eFr (oLc (itS (eVar 2)) (gTp 2 (gsC (gNm 6) (gsC (gNm 7) gsN))) tYes' (oLeaf (eDef 3 m__law_e_both (aCons (eVar 3) (aCons (eVar 6) (aCons (eVar 7) aNil))))) [6, 7])))
    (sRet (eIf (tBool (eBin dEq (eBin dSub2 (eVar 5) (eC (.int 0))) (eBin dSub2 (eVar 5) (eC (.int 1))))) (eTup (aCons (eC (.str "alike")) aNil)) (eC .non))))))))))
def m__law_some_pair : List D → MM D := runD 2 ((sSeq (sIf (tBool (eBin dEq (eDraw (aCons (eVar 0) (aCons (eC (.int 6)) aNil))) (eC (.int 0)))) (sRet (eDef 2 m__law_pick (aCons (eVar 0) (aCons (eFr (oLst (aCons (eC .non) (aCons (eC (.int 3)) (aCons (eTup aNil) (aCons (eTup (aCons (eC (.int 0)) aNil)) (aCons (eTup (aCons (eC (.int 0)) (aCons (eVar 1) aNil))) (aCons (eTup (aCons (eUn dNeg (eC (.int 1))) (aCons (eC (.int 0)) aNil))) (aCons (eTup (aCons (eC (.bl true)) (aCons (eC (.int 0)) aNil))) (aCons (eTup (aCons (eC (.int 0)) (aCons (eC .non) aNil))) (aCons (eTup (aCons (eC (.int 0)) (aCons (eC (.int 0)) (aCons (eC (.int 0)) aNil)))) aNil))))))))))) aNil)))) sNext)
    (sRet (eTup (aCons (eDraw (aCons (eVar 0) (aCons (eVar 1) aNil))) (aCons (eDraw (aCons (eVar 0) (aCons (eVar 1) aNil))) aNil))))))
def b_law : DL.Env → MM Out := (sSeq (sFor (itR1 (aCons (eC (.int 3)) aNil)) (gNm 2) (sSeq (sAsgG (gTp 2 (gsC (gNm 3) (gsC (gNm 4) gsN))) (eDef 1 m__law_e_some_web (aCons (eVar 1) aNil)))
    (sSeq (sAsg 5 (eDef 2 m__law_e_strong (aCons (eVar 3) (aCons (eVar 4) aNil))))
    (sSeq (sFor (itR1 (aCons (eC (.int 6)) aNil)) (gNm 6) (sSeq (sAsg 7 (eFr (oLst (aCons (eDef 2 m__law_some_pair (aCons (eVar 1) (aCons (eVar 3) aNil))) (aCons (eDef 2 m__law_some_pair (aCons (eVar 1) (aCons (eVar 3) aNil))) aNil)))))
    (sSeq (sIf (tBool (eBin dNe (eDef 3 m_strong_fault (aCons (eVar 3) (aCons (eVar 4) (aCons (eDef 2 m_NotStrong_init (aCons (eBin dSub2 (eVar 7) (eC (.int 0))) (aCons (eBin dSub2 (eVar 7) (eC (.int 1))) aNil))) aNil)))) (eDef 3 m__law_due (aCons (eVar 3) (aCons (eVar 4) (aCons (eVar 7) aNil)))))) (sRet (eC (.bl false))) sNext)
    (sSeq (sOwn 8 (oIf (tBool (eBin dIsNot (eVar 5) (eC .non))) (oListA (aCons (eVar 5) aNil)) (oLst (aCons (eC (.int 1)) (aCons (eC (.int 0)) (aCons (eC (.int 0)) aNil))))))
    (sSeq (sIf (tBool (eBin dGt (eDraw (aCons (eVar 1) (aCons (eC (.int 3)) aNil))) (eC (.int 0)))) (sSeq (sAsg 9 (eDraw (aCons (eVar 1) (aCons (eC (.int 3)) aNil))))
    (sAsgG (gSet 8 lHere (eVar 9)) (eDef 2 m__law_pick (aCons (eVar 1) (aCons (eFr (oLst (aCons (eC .non) (aCons (eC (.int 0)) (aCons (eC (.int 1)) (aCons (eC (.int 2)) (aCons (eC (.int 5)) (aCons (eC (.bl true)) (aCons (eC (.bl false)) (aCons (eC (.str "1")) aNil)))))))))) aNil))))) sNext)
    (sSeq (sAsg 10 (eTup (aCons (eC (.str "strong")) aNil)))
    (sFrz 8 (sSeq (sIf (tBool (eBin dIsNot (eVar 5) (eC .non))) (sSeq (sAsg 11 (eFr (oLc (itS (eVar 8)) (gNm 12) (tBool (eCall (dIsi 3) (aCons (eVar 12) (aCons (eC (.ty "bool")) aNil)))) (oLeaf (eC (.int 1))) [12])))
    (sAsg 10 (eIf (tAnd' (tBool (eBin dEq (eTuple (eVar 8)) (eVar 5))) (tBool (eBin dEq (eVar 11) (eFr (oLst aNil))))) (eC .non) (eTup (aCons (eC (.str "numbers")) aNil))))) sNext)
    (sIf (tBool (eBin dNe (eDef 3 m_strong_fault (aCons (eVar 3) (aCons (eVar 4) (aCons (eDef 3 m_Strong_init (aCons (eBin dSub2 (eVar 8) (eC (.int 0))) (aCons (eBin dSub2 (eVar 8) (eC (.int 1))) (aCons (eBin dSub2 (eVar 8) (eC (.int 2))) aNil)))) aNil)))) (eVar 10))) (sRet (eC (.bl false))) sNext)))))))))
    (sIf (tBool (eBin dNe (eDef 3 m_strong_fault (aCons (eVar 3) (aCons (eVar 4) (aCons (eDef 2 m__law_pick (aCons (eVar 1) (aCons (eFr (oLst (aCons (eC .non) (aCons (eC (.int 5)) (aCons (eTup aNil) (aCons (eC (.str "strong")) aNil)))))) aNil))) aNil)))) (eTup (aCons (eC (.str "answer")) aNil)))) (sRet (eC (.bl false))) sNext)))))
    (sSeq (sIf (tOr' (tBool (eOwn 3 1 true m_Strong_eq (eDef 3 m_Strong_init (aCons (eC (.int 1)) (aCons (eC (.int 2)) (aCons (eC (.int 3)) aNil)))) (eDef 3 m_Strong_init (aCons (eC (.int 1)) (aCons (eC (.int 2)) (aCons (eC (.int 3)) aNil)))))) (tBool (eOwn 3 1 false m_Strong_eq (eDef 3 m_Strong_init (aCons (eC (.int 1)) (aCons (eC (.int 2)) (aCons (eC (.int 3)) aNil)))) (eDef 3 m_Strong_init (aCons (eC (.int 1)) (aCons (eC (.int 2)) (aCons (eC (.int 4)) aNil))))))) (sRet (eC (.bl false))) sNext)
    (sSeq (sIf (tOr' (tBool (eOwn 3 1 false m_Strong_eq (eDef 3 m_Strong_init (aCons (eC (.int 1)) (aCons (eC (.int 2)) (aCons (eC (.int 3)) aNil)))) (eDef 3 m_Strong_init (aCons (eC (.int 0)) (aCons (eC (.int 2)) (aCons (eC (.int 3)) aNil)))))) (tBool (eOwn 3 1 false m_Strong_eq (eDef 3 m_Strong_init (aCons (eC (.int 1)) (aCons (eC (.int 2)) (aCons (eC (.int 3)) aNil)))) (eDef 3 m_Strong_init (aCons (eC (.int 1)) (aCons (eC (.int 0)) (aCons (eC (.int 3)) aNil))))))) (sRet (eC (.bl false))) sNext)
    (sSeq (sIf (tOr' (tBool (eOwn 3 2 true m_NotStrong_eq (eDef 2 m_NotStrong_init (aCons (eFr (oLst (aCons (eC (.int 0)) (aCons (eC (.int 1)) aNil)))) (aCons (eTup (aCons (eC (.int 1)) (aCons (eC (.int 2)) aNil))) aNil))) (eDef 2 m_NotStrong_init (aCons (eTup (aCons (eC (.int 0)) (aCons (eC (.int 1)) aNil))) (aCons (eFr (oLst (aCons (eC (.int 1)) (aCons (eC (.int 2)) aNil)))) aNil))))) (tBool (eOwn 3 2 false m_NotStrong_eq (eDef 2 m_NotStrong_init (aCons (eTup (aCons (eC (.int 0)) (aCons (eC (.int 1)) aNil))) (aCons (eTup (aCons (eC (.int 1)) (aCons (eC (.int 2)) aNil))) aNil))) (eDef 2 m_NotStrong_init (aCons (eTup (aCons (eC (.int 0)) (aCons (eC (.int 1)) aNil))) (aCons (eTup (aCons (eC (.int 1)) (aCons (eC (.int 3)) aNil))) aNil)))))) (sRet (eC (.bl false))) sNext)
    (sRet (eAnd (eOwn 3 2 true m_NotStrong_eq (eDef 2 m_NotStrong_init (aCons (eTup (aCons (eC (.int 0)) (aCons (eC (.int 1)) aNil))) (aCons (eTup (aCons (eC (.int 1)) (aCons (eC (.int 2)) aNil))) aNil))) (eDef 2 m_NotStrong_init (aCons (eTup (aCons (eC (.int 0)) (aCons (eC (.int 2)) aNil))) (aCons (eTup (aCons (eC (.int 1)) (aCons (eC (.int 2)) aNil))) aNil)))) (eOwn 3 1 true m_Strong_eq (eDef 3 m_Strong_init (aCons (eC (.int 1)) (aCons (eC (.int 2)) (aCons (eC (.int 3)) aNil)))) (eDef 2 m_NotStrong_init (aCons (eC (.int 1)) (aCons (eC (.int 2)) aNil))))))))))
end Lk65
set_option Elab.async false
set_option linter.all false
set_option maxRecDepth 100000
set_option maxHeartbeats 4000000
namespace Lk65
open PySem L2 DL

abbrev N_is_integer : List Str := ["value"]
theorem sc_is_integer : FnScope N_is_integer ["value"] (defScope s_is_integer) := ⟨rfl, rfl, rfl, by decide +kernel, rfl, by decide +kernel, by decide +kernel⟩
theorem ok_is_integer {P : Program} {w : World} {K : PySem.W.Frag} {mg : Str → Option Value} {base : Heap} {A : Ad} (T : Txt K mg A) {fd : FuncData} (F : Fun K "is_integer" "is_integer" s_is_integer A.f_is_integer fd) : FnOk P w K mg base CX0 1 A.f_is_integer fd ["value"] (spD K A.cl 1 m_is_integer) := by
  refine F.ok sc_is_integer (fun vs H Q E h => spD_len h) (fun cdv A0 outer s H vs Q E hr h => ?_)
  have nd := sc_is_integer.nd
  have hu := hu_of hr
  refine ⟨_, (pss_one (ps_ret (pe_and (pe_callB call_isiA (by rfl) T.b_isinstance (by decide +kernel) (pa_cons (pv 0) (pa_cons (pe_bltn (v := .ty "int") (u := .type "int") (by rfl) T.b_int (by decide +kernel) rfl) pa_nil))) (pe_one (pe_not (pe_callB call_isiA (by rfl) T.b_isinstance (by decide +kernel) (pa_cons (pv 0) (pa_cons (pe_bltn (v := .ty "bool") (u := .type "bool") (by rfl) T.b_bool (by decide +kernel) rfl) pa_nil)))))))), ?_⟩
  exact def_ok (N := N_is_integer) ((rs_ret (rf_and (bi := true) (rf_cb (bi := true) (ra_cons rf_var (ra_cons rf_ty ra_nil)) (rc_isi T.ck)) (rf_not (bi := true) (rf_cb (bi := true) (ra_cons rf_var (ra_cons rf_ty ra_nil)) (rc_isi T.ck)))))) h
abbrev N_is_row : List Str := ["value"]
theorem sc_is_row : FnScope N_is_row ["value"] (defScope s_is_row) := ⟨rfl, rfl, rfl, by decide +kernel, rfl, by decide +kernel, by decide +kernel⟩
theorem ok_is_row {P : Program} {w : World} {K : PySem.W.Frag} {mg : Str → Option Value} {base : Heap} {A : Ad} (T : Txt K mg A) {fd : FuncData} (F : Fun K "is_row" "is_row" s_is_row A.f_is_row fd) : FnOk P w K mg base CX0 1 A.f_is_row fd ["value"] (spD K A.cl 1 m_is_row) := by
  refine F.ok sc_is_row (fun vs H Q E h => spD_len h) (fun cdv A0 outer s H vs Q E hr h => ?_)
  have nd := sc_is_row.nd
  have hu := hu_of hr
  refine ⟨_, (pss_one (ps_ret (pe_callB call_isiA (by rfl) T.b_isinstance (by decide +kernel) (pa_cons (pv 0) (pa_cons (pe_tup (pa_cons (pe_bltn (v := .ty "list") (u := .type "list") (by rfl) T.b_list (by decide +kernel) rfl) (pa_cons (pe_bltn (v := .ty "tuple") (u := .type "tuple") (by rfl) T.b_tuple (by decide +kernel) rfl) pa_nil))) pa_nil))))), ?_⟩
  exact def_ok (N := N_is_row) ((rs_ret (rf_cb (bi := true) (ra_cons rf_var (ra_cons (rf_tup (ra_cons rf_ty (ra_cons rf_ty ra_nil))) ra_nil)) (rc_isi T.ck)))) h
abbrev N_kept : List Str := ["value", "item"]
theorem sc_kept : FnScope N_kept ["value"] (defScope s_kept) := ⟨rfl, rfl, rfl, by decide +kernel, rfl, by decide +kernel, by decide +kernel⟩
theorem ok_kept {P : Program} {w : World} {K : PySem.W.Frag} {mg : Str → Option Value} {base : Heap} {A : Ad} (T : Txt K mg A) {fd : FuncData} (F : Fun K "kept" "kept" s_kept A.f_kept fd) {fd_is_row : FuncData} (G_is_row : FnOk P w K mg base CX0 1 A.f_is_row fd_is_row ["value"] (spD K A.cl 1 m_is_row)) (B_is_row : Binds K fd_is_row ["value"] []) (B_kept : Binds K fd ["value"] []) : ∀ j : Nat, FnOk P w K mg base CX0 (j + 1) A.f_kept fd ["value"] (spD K A.cl 1 (m_kept j))
  | 0 => F.ok sc_kept (fun vs H Q E h => spD_len h) (fun cdv A0 outer s H vs Q E hr h => by
    obtain ⟨_, _, _, _, _, _, _, _, _, _, e, _⟩ := h
    exact nomatch (show (none : Option (D × Pen)) = some _ from e))
  | j + 1 => by
    have G_kept := ok_kept T F G_is_row B_is_row B_kept j
    refine F.ok sc_kept (fun vs H Q E h => spD_len h) (fun cdv A0 outer s H vs Q E hr h => ?_)
    have nd := sc_kept.nd
    have hu := hu_of hr
    refine ⟨_, (pss_one (ps_ret (pe_ifExp (pt_val (pe_call G_is_row (hr.mono (by omega)) rfl T.g_is_row T.k_is_row B_is_row .nil pass0 (pa_cons (pv 0) pa_nil))) (pe_tupleOf (by rfl) T.b_tuple (pe_lc (own := [("item", 1)]) (g := (gName 1)) (tt := tYes) (te := (tCall (spD K A.cl 1 (m_kept j)) [] E0 (tCons (tVar 1) tNil))) rfl nd (pi_seq (pv 0)) (blkOk_by (N := N_kept) (sc := defScope s_kept) (by decide +kernel)) (fun _ _ _ _ _ => (pg_name (i := 1) nd rfl (by first | exact Or.inl rfl | exact Or.inr rfl))) (fun _ _ _ _ _ => pts_nil) (fun _ _ _ _ _ => (pe_call G_kept (hr.mono (by omega)) rfl T.g_kept T.k_kept B_kept .nil pass0 (pa_cons (pv 1) pa_nil))))) (pv 0)))), ?_⟩
    exact def_ok (N := N_kept) ((rs_ret (rf_if (rt_B (b := true) (rf_def (n := 1) (m := m_is_row) (ra_cons rf_var ra_nil))) (rf_tuple (rf_fr (ro_lc (vs := [1]) (ri_seq rf_var) (rgn_name (by decide)) rt_yes (ro_leaf (rf_def (n := 1) (m := (m_kept j)) (ra_cons rf_var ra_nil)))))) rf_var))) h
abbrev N_are_rows : List Str := ["rows", "row", "item"]
theorem sc_are_rows : FnScope N_are_rows ["rows"] (defScope s_are_rows) := ⟨rfl, rfl, rfl, by decide +kernel, rfl, by decide +kernel, by decide +kernel⟩
theorem ok_are_rows {P : Program} {w : World} {K : PySem.W.Frag} {mg : Str → Option Value} {base : Heap} {A : Ad} (T : Txt K mg A) {fd : FuncData} (F : Fun K "are_rows" "are_rows" s_are_rows A.f_are_rows fd) {fd_is_row : FuncData} (G_is_row : FnOk P w K mg base CX0 1 A.f_is_row fd_is_row ["value"] (spD K A.cl 1 m_is_row)) (B_is_row : Binds K fd_is_row ["value"] []) {fd_is_integer : FuncData} (G_is_integer : FnOk P w K mg base CX0 1 A.f_is_integer fd_is_integer ["value"] (spD K A.cl 1 m_is_integer)) (B_is_integer : Binds K fd_is_integer ["value"] []) : FnOk P w K mg base CX0 2 A.f_are_rows fd ["rows"] (spD K A.cl 1 m_are_rows) := by
  refine F.ok sc_are_rows (fun vs H Q E h => spD_len h) (fun cdv A0 outer s H vs Q E hr h => ?_)
  have nd := sc_are_rows.nd
  have hu := hu_of hr
  refine ⟨_, (pss_cons (ps_if (PW.pt (pw_or (pt_not (pt_val (pe_call G_is_row (hr.mono (by omega)) rfl T.g_is_row T.k_is_row B_is_row .nil pass0 (pa_cons (pv 0) pa_nil)))) (pw_or1 (pt_not (pt_chain op_le op_le pe_int (pe_callB call_lenA (by rfl) T.b_len (by decide +kernel) (pa_cons (pv 0) pa_nil)) (pe_glob (v := .int 32) rfl (Classical.choose_spec T.g_MOST_THINGS) ⟨_, rfl⟩)))))) (pss_one (ps_ret pe_bl)) pss_nil) (pss_cons (ps_if (pt_not (pt_val (pe_callB (cr_all rfl) (by rfl) T.b_all (by decide +kernel) (pa_cons (pe_lc (own := [("row", 1)]) (g := (gName 1)) (tt := tYes) (te := (tAndV (tCall (spD K A.cl 1 m_is_row) [] E0 (tCons (tVar 1) tNil)) (tOp (rEqD K) (tCB (rLenA K) (tCons (tVar 1) tNil)) (tCB (rLenA K) (tCons (tVar 0) tNil))))) rfl nd (pi_seq (pv 0)) (blkOk_by (N := N_are_rows) (sc := defScope s_are_rows) (by decide +kernel)) (fun _ _ _ _ _ => (pg_name (i := 1) nd rfl (by first | exact Or.inl rfl | exact Or.inr rfl))) (fun _ _ _ _ _ => pts_nil) (fun _ _ _ _ _ => (pe_and (pe_call G_is_row (hr.mono (by omega)) rfl T.g_is_row T.k_is_row B_is_row .nil pass0 (pa_cons (pv 1) pa_nil)) (pe_one (pe_cmpR (op_eqD hr.units) (pe_callB call_lenA (by rfl) T.b_len (by decide +kernel) (pa_cons (pv 1) pa_nil)) (pe_callB call_lenA (by rfl) T.b_len (by decide +kernel) (pa_cons (pv 0) pa_nil)) (nomark _)))))) pa_nil)))) (pss_one (ps_ret pe_bl)) pss_nil) (pss_one (ps_ret (pe_callB (cr_all rfl) (by rfl) T.b_all (by decide +kernel) (pa_cons (pe_lc2 (own := [("row", 1), ("item", 2)]) (vs1 := [2]) (g := (gName 1)) (g1 := (gName 2)) (tt := tYes) (wi1 := (iSeq K (tVar 1))) (tt1 := tYes) (te := (tAndV (tCall (spD K A.cl 1 m_is_integer) [] E0 (tCons (tVar 2) tNil)) (tOp rGeE (tVar 2) (tC (.int 0))))) rfl nd (pi_seq (pv 0)) (blkOk_by (N := N_are_rows) (sc := defScope s_are_rows) (by decide +kernel)) (by decide) (fun _ _ _ _ _ => (pg_name (i := 1) nd rfl (by first | exact Or.inl rfl | exact Or.inr rfl))) (fun _ _ _ _ _ => pts_nil) (fun _ _ _ _ _ => (pi_seq (pv 1))) (fun _ _ _ _ _ => (pg_name (i := 2) nd rfl (by first | exact Or.inl rfl | exact Or.inr rfl))) (fun _ _ _ _ _ => pts_nil) (fun _ _ _ _ _ => (pe_and (pe_call G_is_integer (hr.mono (by omega)) rfl T.g_is_integer T.k_is_integer B_is_integer .nil pass0 (pa_cons (pv 2) pa_nil)) (pe_one (pe_cmpR op_ge (pv 2) pe_int (nomark _)))))) pa_nil)))))), ?_⟩
  exact def_ok (N := N_are_rows) ((rs_seq (rs_if (rt_or (rt_not (rt_B (b := true) (rf_def (n := 1) (m := m_is_row) (ra_cons rf_var ra_nil)))) (rt_not (rt_test (b := true) (rf_chain (bi := true) rf_int (rf_cb (bi := true) (ra_cons rf_var ra_nil) rc_len) rf_int r2_le r2_le)))) (rs_ret rf_bl) rs_next) (rs_seq (rs_if (rt_not (rt_B (b := true) (rf_cb (bi := true) (ra_cons (rf_fr (ro_lc (vs := [1]) (ri_seq rf_var) (rgn_name (by decide)) rt_yes (ro_leaf (rf_and (bi := true) (rf_def (n := 1) (m := m_is_row) (ra_cons rf_var ra_nil)) (rf_op (bi := true) (rf_cb (bi := true) (ra_cons rf_var ra_nil) rc_len) (rf_cb (bi := true) (ra_cons rf_var ra_nil) rc_len) r2_eq))))) ra_nil) rc_all))) (rs_ret rf_bl) rs_next) (rs_ret (rf_cb (bi := true) (ra_cons (rf_fr (ro_lc2 (vs := [1, 2]) (vs1 := [2]) (ri_seq rf_var) (rgn_name (by decide)) rt_yes (ri_seq rf_var) (rgn_name (by decide)) rt_yes (ro_leaf (rf_and (bi := true) (rf_def (n := 1) (m := m_is_integer) (ra_cons rf_var ra_nil)) (rf_op (bi := true) rf_var rf_int r2_ge))))) ra_nil) rc_all))))) h
abbrev N_used : List Str := ["rows", "row", "item"]
theorem sc_used : FnScope N_used ["rows"] (defScope s_used) := ⟨rfl, rfl, rfl, by decide +kernel, rfl, by decide +kernel, by decide +kernel⟩
theorem ok_used {P : Program} {w : World} {K : PySem.W.Frag} {mg : Str → Option Value} {base : Heap} {A : Ad} (T : Txt K mg A) {fd : FuncData} (F : Fun K "used" "used" s_used A.f_used fd) : FnOk P w K mg base CX0 1 A.f_used fd ["rows"] (spD K A.cl 1 m_used) := by
  refine F.ok sc_used (fun vs H Q E h => spD_len h) (fun cdv A0 outer s H vs Q E hr h => ?_)
  have nd := sc_used.nd
  have hu := hu_of hr
  refine ⟨_, (pss_one (ps_ret (pe_sortedSet (by rfl) T.b_sorted (by rfl) T.b_set (pe_lc2 (own := [("row", 1), ("item", 2)]) (vs1 := [2]) (g := (gName 1)) (g1 := (gName 2)) (tt := tYes) (wi1 := (iSeq K (tVar 1))) (tt1 := tYes) (te := (tVar 2)) rfl nd (pi_seq (pv 0)) (blkOk_by (N := N_used) (sc := defScope s_used) (by decide +kernel)) (by decide) (fun _ _ _ _ _ => (pg_name (i := 1) nd rfl (by first | exact Or.inl rfl | exact Or.inr rfl))) (fun _ _ _ _ _ => pts_nil) (fun _ _ _ _ _ => (pi_seq (pv 1))) (fun _ _ _ _ _ => (pg_name (i := 2) nd rfl (by first | exact Or.inl rfl | exact Or.inr rfl))) (fun _ _ _ _ _ => pts_nil) (fun _ _ _ _ _ => (pv 2)))))), ?_⟩
  exact def_ok (N := N_used) ((rs_ret (rf_fr (ro_sortSet (rf_fr (ro_lc2 (vs := [1, 2]) (vs1 := [2]) (ri_seq rf_var) (rgn_name (by decide)) rt_yes (ri_seq rf_var) (rgn_name (by decide)) rt_yes (ro_leaf rf_var))))))) h
abbrev N_Pairing_init : List Str := ["self", "rows", "kinds", "row"]
theorem sc_Pairing_init : FnScope N_Pairing_init ["self", "rows"] (defScope s_Pairing_init) := ⟨rfl, rfl, rfl, by decide +kernel, rfl, by decide +kernel, by decide +kernel⟩
theorem ok_Pairing_init {P : Program} {w : World} {K : PySem.W.Frag} {mg : Str → Option Value} {base : Heap} {A : Ad} (T : Txt K mg A) {fd : FuncData} (F : Fun K "__init__" "Pairing.__init__" s_Pairing_init A.f_Pairing_init fd) {fd_used : FuncData} (G_used : FnOk P w K mg base CX0 1 A.f_used fd_used ["rows"] (spD K A.cl 1 m_used)) (B_used : Binds K fd_used ["rows"] []) {fd_are_rows : FuncData} (G_are_rows : FnOk P w K mg base CX0 2 A.f_are_rows fd_are_rows ["rows"] (spD K A.cl 1 m_are_rows)) (B_are_rows : Binds K fd_are_rows ["rows"] []) : FnOk P w K mg base CX0 3 A.f_Pairing_init fd ["self", "rows"] (spI K A.cl 1 0 m_Pairing_init) := by
  refine F.ok sc_Pairing_init (fun vs H Q E h => spI_len h) (fun cdv A0 outer s H vs Q E hr h => ?_)
  have nd := sc_Pairing_init.nd
  have hu := hu_of hr
  refine ⟨_, (pss_cons (ps_if (pt_not (pt_val (pe_call G_are_rows (hr.mono (by omega)) rfl T.g_are_rows T.k_are_rows B_are_rows .nil pass0 (pa_cons (pv 1) pa_nil)))) (pss_one ps_never) pss_nil) (pss_cons (ps_set (i := 2) nd rfl (Or.inl rfl) (pe_call G_used (hr.mono (by omega)) rfl T.g_used T.k_used B_used .nil pass0 (pa_cons (pv 1) pa_nil))) (pss_cons (ps_if (pt_cmpR (op_neD hr.units) (pv 2) (pe_listRg rfl (by rfl) T.b_list (prg_1 (by rfl) T.b_range (pe_callB call_lenA (by rfl) T.b_len (by decide +kernel) (pa_cons (pv 2) pa_nil)))) (nomark _)) (pss_one ps_never) pss_nil) (pss_cons (ps_fld (pv 0) (pe_tupleOf (by rfl) T.b_tuple (pe_lc (own := [("row", 3)]) (g := (gName 3)) (tt := tYes) (te := (tThen (tVar 3) (kTup K))) rfl nd (pi_seq (pv 1)) (blkOk_by (N := N_Pairing_init) (sc := defScope s_Pairing_init) (by decide +kernel)) (fun _ _ _ _ _ => (pg_name (i := 3) nd rfl (by first | exact Or.inl rfl | exact Or.inr rfl))) (fun _ _ _ _ _ => pts_nil) (fun _ _ _ _ _ => (pe_tupleOf (by rfl) T.b_tuple (pv 3))))) rfl) (pss_cons (ps_fld (pv 0) (pe_callB call_lenA (by rfl) T.b_len (by decide +kernel) (pa_cons (pv 1) pa_nil)) rfl) (pss_cons (ps_fld (pv 0) (pe_callB call_lenA (by rfl) T.b_len (by decide +kernel) (pa_cons (pv 2) pa_nil)) rfl) pss_nil)))))), ?_⟩
  exact init_ok (N := N_Pairing_init) ((rj_not (rt_not (rt_B (b := true) (rf_def (n := 1) (m := m_are_rows) (ra_cons rf_var ra_nil)))) (rj_asg (i := 2) (by decide) (rf_def (n := 1) (m := m_used) (ra_cons rf_var ra_nil)) (rj_not (rt_test (b := true) (rf_op (bi := true) rf_var (rf_fr (ro_rg1 (rf_cb (bi := true) (ra_cons rf_var ra_nil) rc_len))) r2_ne)) (rj_fld (cn := 0) (T.hok 0 "rows" (by decide)).1 (T.hok 0 "rows" (by decide)).2 (rf_tuple (rf_fr (ro_lc (vs := [3]) (ri_seq rf_var) (rgn_name (by decide)) rt_yes (ro_leaf (rf_tuple rf_var))))) (rj_fld (cn := 0) (T.hok 0 "many" (by decide)).1 (T.hok 0 "many" (by decide)).2 (rf_cb (bi := true) (ra_cons rf_var ra_nil) rc_len) (rj_fld (cn := 0) (T.hok 0 "kinds" (by decide)).1 (T.hok 0 "kinds" (by decide)).2 (rf_cb (bi := true) (ra_cons rf_var ra_nil) rc_len) rj_end))))))) h
abbrev N_Pairing_eq : List Str := ["self", "other"]
theorem sc_Pairing_eq : FnScope N_Pairing_eq ["self", "other"] (defScope s_Pairing_eq) := ⟨rfl, rfl, rfl, by decide +kernel, rfl, by decide +kernel, by decide +kernel⟩
theorem ok_Pairing_eq {P : Program} {w : World} {K : PySem.W.Frag} {mg : Str → Option Value} {base : Heap} {A : Ad} (T : Txt K mg A) {fd : FuncData} (F : Fun K "__eq__" "Pairing.__eq__" s_Pairing_eq A.f_Pairing_eq fd) : FnOk P w K mg base CX0 1 A.f_Pairing_eq fd ["self", "other"] (spD K A.cl 2 m_Pairing_eq) := by
  refine F.ok sc_Pairing_eq (fun vs H Q E h => spD_len h) (fun cdv A0 outer s H vs Q E hr h => ?_)
  have nd := sc_Pairing_eq.nd
  have hu := hu_of hr
  refine ⟨_, (pss_one (ps_ret (pe_and (pe_callB call_isiA (by rfl) T.b_isinstance (by decide +kernel) (pa_cons (pv 1) (pa_cons (pe_glob (v := .ref (A.cl 0)) rfl T.m_Pairing rfl) pa_nil))) (pe_one (pe_cmpR (op_eqD hr.units) (pe_fld (pv 0) rfl) (pe_fld (pv 1) rfl) (nomark _)))))), ?_⟩
  exact def_ok (N := N_Pairing_eq) ((rs_ret (rf_and (bi := true) (rf_cb (bi := true) (ra_cons rf_var (ra_cons (rf_cls (c := 0)) ra_nil)) (rc_isi T.ck)) (rf_op (bi := true) (rf_fld (okc := okc) (fun c h => T.hok c "rows" h) rf_var) (rf_fld (okc := okc) (fun c h => T.hok c "rows" h) rf_var) r2_eq)))) h
abbrev N_is_thing : List Str := ["many", "value"]
theorem sc_is_thing : FnScope N_is_thing ["many", "value"] (defScope s_is_thing) := ⟨rfl, rfl, rfl, by decide +kernel, rfl, by decide +kernel, by decide +kernel⟩
theorem ok_is_thing {P : Program} {w : World} {K : PySem.W.Frag} {mg : Str → Option Value} {base : Heap} {A : Ad} (T : Txt K mg A) {fd : FuncData} (F : Fun K "is_thing" "is_thing" s_is_thing A.f_is_thing fd) {fd_is_integer : FuncData} (G_is_integer : FnOk P w K mg base CX0 1 A.f_is_integer fd_is_integer ["value"] (spD K A.cl 1 m_is_integer)) (B_is_integer : Binds K fd_is_integer ["value"] []) : FnOk P w K mg base CX0 2 A.f_is_thing fd ["many", "value"] (spD K A.cl 2 m_is_thing) := by
  refine F.ok sc_is_thing (fun vs H Q E h => spD_len h) (fun cdv A0 outer s H vs Q E hr h => ?_)
  have nd := sc_is_thing.nd
  have hu := hu_of hr
  refine ⟨_, (pss_one (ps_ret (pe_and (pe_call G_is_integer (hr.mono (by omega)) rfl T.g_is_integer T.k_is_integer B_is_integer .nil pass0 (pa_cons (pv 1) pa_nil)) (pe_one (pe_chain op_le op_lt pe_int (pv 1) (pv 0)))))), ?_⟩
  exact def_ok (N := N_is_thing) ((rs_ret (rf_and (bi := true) (rf_def (n := 1) (m := m_is_integer) (ra_cons rf_var ra_nil)) (rf_chain (bi := true) rf_int rf_var rf_var r2_le r2_lt)))) h
abbrev N_is_tie : List Str := ["many", "value"]
theorem sc_is_tie : FnScope N_is_tie ["many", "value"] (defScope s_is_tie) := ⟨rfl, rfl, rfl, by decide +kernel, rfl, by decide +kernel, by decide +kernel⟩
theorem ok_is_tie {P : Program} {w : World} {K : PySem.W.Frag} {mg : Str → Option Value} {base : Heap} {A : Ad} (T : Txt K mg A) {fd : FuncData} (F : Fun K "is_tie" "is_tie" s_is_tie A.f_is_tie fd) {fd_is_thing : FuncData} (G_is_thing : FnOk P w K mg base CX0 2 A.f_is_thing fd_is_thing ["many", "value"] (spD K A.cl 2 m_is_thing)) (B_is_thing : Binds K fd_is_thing ["many", "value"] []) : FnOk P w K mg base CX0 3 A.f_is_tie fd ["many", "value"] (spD K A.cl 2 m_is_tie) := by
  refine F.ok sc_is_tie (fun vs H Q E h => spD_len h) (fun cdv A0 outer s H vs Q E hr h => ?_)
  have nd := sc_is_tie.nd
  have hu := hu_of hr
  refine ⟨_, (pss_cons (ps_if (PW.pt (pw_or (pt_not (pt_val (pe_callB call_isiA (by rfl) T.b_isinstance (by decide +kernel) (pa_cons (pv 1) (pa_cons (pe_bltn (v := .ty "tuple") (u := .type "tuple") (by rfl) T.b_tuple (by decide +kernel) rfl) pa_nil))))) (pw_or1 (pt_cmpR (op_neD hr.units) (pe_callB call_lenA (by rfl) T.b_len (by decide +kernel) (pa_cons (pv 1) pa_nil)) pe_int (nomark _))))) (pss_one (ps_ret pe_bl)) pss_nil) (pss_one (ps_ret (pe_and (pe_call G_is_thing (hr.mono (by omega)) rfl T.g_is_thing T.k_is_thing B_is_thing .nil pass0 (pa_cons (pv 0) (pa_cons (pe_ix (ix_sub hu) (pv 1) pe_int (fun _ _ => rfl)) pa_nil))) (pe_and (pe_call G_is_thing (hr.mono (by omega)) rfl T.g_is_thing T.k_is_thing B_is_thing .nil pass0 (pa_cons (pv 0) (pa_cons (pe_ix (ix_sub hu) (pv 1) pe_int (fun _ _ => rfl)) pa_nil))) (pe_one (pe_cmpR (op_neD hr.units) (pe_ix (ix_sub hu) (pv 1) pe_int (fun _ _ => rfl)) (pe_ix (ix_sub hu) (pv 1) pe_int (fun _ _ => rfl)) (nomark _)))))))), ?_⟩
  exact def_ok (N := N_is_tie) ((rs_seq (rs_if (rt_or (rt_not (rt_B (b := true) (rf_cb (bi := true) (ra_cons rf_var (ra_cons rf_ty ra_nil)) (rc_isi T.ck)))) (rt_test (b := true) (rf_op (bi := true) (rf_cb (bi := true) (ra_cons rf_var ra_nil) rc_len) rf_int r2_ne))) (rs_ret rf_bl) rs_next) (rs_ret (rf_and (bi := true) (rf_def (n := 2) (m := m_is_thing) (ra_cons rf_var (ra_cons (rf_op (bi := true) rf_var rf_int r2_sub2) ra_nil))) (rf_and (bi := true) (rf_def (n := 2) (m := m_is_thing) (ra_cons rf_var (ra_cons (rf_op (bi := true) rf_var rf_int r2_sub2) ra_nil))) (rf_op (bi := true) (rf_op (bi := true) rf_var rf_int r2_sub2) (rf_op (bi := true) rf_var rf_int r2_sub2) r2_ne)))))) h
abbrev N_numbered : List Str := ["rows", "names", "item", "row"]
theorem sc_numbered : FnScope N_numbered ["rows"] (defScope s_numbered) := ⟨rfl, rfl, rfl, by decide +kernel, rfl, by decide +kernel, by decide +kernel⟩
theorem ok_numbered {P : Program} {w : World} {K : PySem.W.Frag} {mg : Str → Option Value} {base : Heap} {A : Ad} (T : Txt K mg A) {fd : FuncData} (F : Fun K "numbered" "numbered" s_numbered A.f_numbered fd) {fd_used : FuncData} (G_used : FnOk P w K mg base CX0 1 A.f_used fd_used ["rows"] (spD K A.cl 1 m_used)) (B_used : Binds K fd_used ["rows"] []) {fd_Pairing_init : FuncData} (G_Pairing_init : FnOk P w K mg base CX0 3 A.f_Pairing_init fd_Pairing_init ["self", "rows"] (spI K A.cl 1 0 m_Pairing_init)) (B_Pairing_init : Binds K fd_Pairing_init ["self", "rows"] []) : FnOk P w K mg base CX0 5 A.f_numbered fd ["rows"] (spD K A.cl 1 m_numbered) := by
  refine F.ok sc_numbered (fun vs H Q E h => spD_len h) (fun cdv A0 outer s H vs Q E hr h => ?_)
  have nd := sc_numbered.nd
  have hu := hu_of hr
  refine ⟨_, (pss_cons (ps_set (i := 1) nd rfl (Or.inr rfl) pe_dnewK) (pss_cons (ps_for PassesOwn.never rfl (pi_seq (pe_call G_used (hr.mono (by omega)) rfl T.g_used T.k_used B_used .nil pass0 (pa_cons (pv 0) pa_nil))) (pg_name (i := 2) nd rfl (Or.inl rfl)) (pss_one (ps_asg (pe_callB call_lenA (by rfl) T.b_len (by decide +kernel) (pa_cons (pv 1) pa_nil)) (pg_sub (pv 1) (pv 2) (set_any hu))))) (pss_one (ps_ret (pe_make T.mk_Pairing G_Pairing_init (hr.mono (by omega)) rfl T.m_Pairing B_Pairing_init .nil pass0 (pa_cons (pe_lc (own := [("row", 3)]) (g := (gName 3)) (tt := tYes) (te := (tLc (iSeq K (tVar 3)) (gName 2) tYes (tOp (rSub K) (tVar 1) (tVar 2)) [2])) rfl nd (pi_seq (pv 0)) (blkOk_by (N := N_numbered) (sc := defScope s_numbered) (by decide +kernel)) (fun _ _ _ _ _ => (pg_name (i := 3) nd rfl (by first | exact Or.inl rfl | exact Or.inr rfl))) (fun _ _ _ _ _ => pts_nil) (fun _ _ _ _ _ => (pe_lc (own := [("item", 2)]) (g := (gName 2)) (tt := tYes) (te := (tOp (rSub K) (tVar 1) (tVar 2))) rfl nd (pi_seq (pv 3)) (blkOk_by (N := N_numbered) (by first | rfl | with_unfolding_all rfl | kernel_rfl)) (fun _ _ _ _ _ => (pg_name (i := 2) nd rfl (by first | exact Or.inl rfl | exact Or.inr rfl))) (fun _ _ _ _ _ => pts_nil) (fun _ _ _ _ _ => (pe_ix (ix_sub hu) (pv 1) (pv 2) (fun _ _ => rfl)))))) pa_nil)))))), ?_⟩
  exact def_ok (N := N_numbered) ((rs_seq (rs_own ro_dK) (rs_seq (rs_for (ri_seq (rf_def (n := 1) (m := m_used) (ra_cons rf_var ra_nil))) rg_name (rs_asgG (rf_all (rf_cb (bi := true) (ra_cons rf_var ra_nil) rc_len)) (rg_set rl_var rf_var))) (rs_ret (rf_make (cn := 0) (n := 1) (m := m_Pairing_init) (ra_cons (rf_fr (ro_lc (vs := [3]) (ri_seq rf_var) (rgn_name (by decide)) rt_yes (ro_leaf (rf_fr (ro_lc (vs := [2]) (ri_seq rf_var) (rgn_name (by decide)) rt_yes (ro_leaf (rf_at (rl_ix rl_var rf_var)))))))) ra_nil)))))) h
abbrev N_of_web : List Str := ["n", "ties", "index", "tie", "x", "y", "rows"]
theorem sc_of_web : FnScope N_of_web ["n", "ties"] (defScope s_of_web) := ⟨rfl, rfl, rfl, by decide +kernel, rfl, by decide +kernel, by decide +kernel⟩
theorem ok_of_web {P : Program} {w : World} {K : PySem.W.Frag} {mg : Str → Option Value} {base : Heap} {A : Ad} (T : Txt K mg A) {fd : FuncData} (F : Fun K "of_web" "of_web" s_of_web A.f_of_web fd) {fd_numbered : FuncData} (G_numbered : FnOk P w K mg base CX0 5 A.f_numbered fd_numbered ["rows"] (spD K A.cl 1 m_numbered)) (B_numbered : Binds K fd_numbered ["rows"] []) {fd_is_row : FuncData} (G_is_row : FnOk P w K mg base CX0 1 A.f_is_row fd_is_row ["value"] (spD K A.cl 1 m_is_row)) (B_is_row : Binds K fd_is_row ["value"] []) {fd_is_integer : FuncData} (G_is_integer : FnOk P w K mg base CX0 1 A.f_is_integer fd_is_integer ["value"] (spD K A.cl 1 m_is_integer)) (B_is_integer : Binds K fd_is_integer ["value"] []) {fd_is_tie : FuncData} (G_is_tie : FnOk P w K mg base CX0 3 A.f_is_tie fd_is_tie ["many", "value"] (spD K A.cl 2 m_is_tie)) (B_is_tie : Binds K fd_is_tie ["many", "value"] []) : FnOk P w K mg base CX0 6 A.f_of_web fd ["n", "ties"] (spD K A.cl 2 m_of_web) := by
  refine F.ok sc_of_web (fun vs H Q E h => spD_len h) (fun cdv A0 outer s H vs Q E hr h => ?_)
  have nd := sc_of_web.nd
  have hu := hu_of hr
  refine ⟨_, (pss_cons (ps_if (PW.pt (pw_or (pt_not (pt_val (pe_call G_is_integer (hr.mono (by omega)) rfl T.g_is_integer T.k_is_integer B_is_integer .nil pass0 (pa_cons (pv 0) pa_nil)))) (pw_or1 (pt_not (pt_chain op_le op_le pe_int (pv 0) (pe_glob (v := .int 32) rfl (Classical.choose_spec T.g_MOST_THINGS) ⟨_, rfl⟩)))))) (pss_one ps_never) pss_nil) (pss_cons (ps_if (pt_not (pt_val (pe_call G_is_row (hr.mono (by omega)) rfl T.g_is_row T.k_is_row B_is_row .nil pass0 (pa_cons (pv 1) pa_nil)))) (pss_one ps_never) pss_nil) (pss_cons (ps_for PassesOwn.never rfl (pi_enum rfl T.b_enumerate (pa_cons (pv 1) pa_nil)) (pg_tup rfl (pgs_cons (pg_name (i := 2) nd rfl (Or.inl rfl)) (pgs_cons (pg_name (i := 3) nd rfl (Or.inl rfl)) pgs_nil))) (pss_one (ps_if (pt_not (pt_val (pe_call G_is_tie (hr.mono (by omega)) rfl T.g_is_tie T.k_is_tie B_is_tie .nil pass0 (pa_cons (pv 0) (pa_cons (pv 3) pa_nil))))) (pss_one ps_never) pss_nil))) (pss_cons (ps_setLc (i := 6) (own := [("x", 4)]) (g := (gName 4)) (tt := tYes) (te := (tLc (iRng1 (tCons (tVar 0) tNil)) (gName 5) tYes (tIf (tTest (tOp (rEqD K) (tVar 4) (tVar 5))) (tC (.int 0)) (tC (.int 2))) [5])) rfl nd rfl rfl (sw_true rfl rfl rfl (by decide +kernel)) (pi_range1 rfl T.b_range (pa_cons (pv 0) pa_nil)) (blkOk_by (N := N_of_web) (sc := defScope s_of_web) (by decide +kernel)) (fun _ _ _ _ _ => (pg_name (i := 4) nd rfl (by first | exact Or.inl rfl | exact Or.inr rfl))) (fun _ _ _ _ _ => pts_nil) (fun _ _ _ _ _ => (pe_lc (own := [("y", 5)]) (g := (gName 5)) (tt := tYes) (te := (tIf (tTest (tOp (rEqD K) (tVar 4) (tVar 5))) (tC (.int 0)) (tC (.int 2)))) rfl nd (pi_range1 rfl T.b_range (pa_cons (pv 0) pa_nil)) (blkOk_by (N := N_of_web) (by first | rfl | with_unfolding_all rfl | kernel_rfl)) (fun _ _ _ _ _ => (pg_name (i := 5) nd rfl (by first | exact Or.inl rfl | exact Or.inr rfl))) (fun _ _ _ _ _ => pts_nil) (fun _ _ _ _ _ => (pe_ifExp (pt_cmpR (op_eqD hr.units) (pv 4) (pv 5) (nomark _)) pe_int pe_int))))) (pss_cons (ps_for PassesOwn.never rfl (pi_seq (pv 1)) (pg_tup rfl (pgs_cons (pg_name (i := 4) nd rfl (Or.inl rfl)) (pgs_cons (pg_name (i := 5) nd rfl (Or.inl rfl)) pgs_nil))) (pss_one (ps_asg (pe_tup (pa_cons pe_int (pa_cons pe_int pa_nil))) (pg_tup rfl (pgs_cons (pg_sub (pe_ix (ix_sub hu) (pv 6) (pv 4) (fun _ _ => rfl)) (pv 5) (set_any hu)) (pgs_cons (pg_sub (pe_ix (ix_sub hu) (pv 6) (pv 5) (fun _ _ => rfl)) (pv 4) (set_any hu)) pgs_nil)))))) (pss_one (ps_ret (pe_call G_numbered (hr.mono (by omega)) rfl T.g_numbered T.k_numbered B_numbered .nil pass0 (pa_cons (pv 6) pa_nil))))))))), ?_⟩
  exact def_ok (N := N_of_web) ((rs_seq (rs_if (rt_or (rt_not (rt_B (b := true) (rf_def (n := 1) (m := m_is_integer) (ra_cons rf_var ra_nil)))) (rt_not (rt_test (b := true) (rf_chain (bi := true) rf_int rf_var rf_int r2_le r2_le)))) rs_never rs_next) (rs_seq (rs_if (rt_not (rt_B (b := true) (rf_def (n := 1) (m := m_is_row) (ra_cons rf_var ra_nil)))) rs_never rs_next) (rs_seq (rs_for (ri_enum (ra_cons rf_var ra_nil)) (rg_tup (rgs_cons rg_name (rgs_cons rg_name rgs_nil))) (rs_if (rt_not (rt_B (b := true) (rf_def (n := 2) (m := m_is_tie) (ra_cons rf_var (ra_cons rf_var ra_nil))))) rs_never rs_next)) (rs_seq (rs_own (ro_lc (vs := [4]) (ri_range1 (ra_cons rf_var ra_nil)) (rgn_name (by decide)) rt_yes (ro_lc (vs := [5]) (ri_range1 (ra_cons rf_var ra_nil)) (rgn_name (by decide)) rt_yes (ro_leaf (rf_if (rt_test (b := true) (rf_op (bi := true) rf_var rf_var r2_eq)) rf_int rf_int))))) (rs_seq (rs_for (ri_seq rf_var) (rg_tup (rgs_cons rg_name (rgs_cons rg_name rgs_nil))) (rs_asgG (rf_tup (ra_cons rf_int (ra_cons rf_int ra_nil))) (rg_tup (rgs_cons (rg_set (rl_ix rl_var rf_var) rf_var) (rgs_cons (rg_set (rl_ix rl_var rf_var) rf_var) rgs_nil))))) (rs_frz 6 (rs_ret (rf_def (n := 1) (m := m_numbered) (ra_cons rf_var ra_nil)))))))))) h
abbrev N_all_words : List Str := ["length", "letters", "found", "lap", "word", "item"]
theorem sc_all_words : FnScope N_all_words ["length", "letters"] (defScope s_all_words) := ⟨rfl, rfl, rfl, by decide +kernel, rfl, by decide +kernel, by decide +kernel⟩
theorem ok_all_words {P : Program} {w : World} {K : PySem.W.Frag} {mg : Str → Option Value} {base : Heap} {A : Ad} (T : Txt K mg A) {fd : FuncData} (F : Fun K "all_words" "all_words" s_all_words A.f_all_words fd) : FnOk P w K mg base CX0 1 A.f_all_words fd ["length", "letters"] (spD K A.cl 2 m_all_words) := by
  refine F.ok sc_all_words (fun vs H Q E h => spD_len h) (fun cdv A0 outer s H vs Q E hr h => ?_)
  have nd := sc_all_words.nd
  have hu := hu_of hr
  refine ⟨_, (pss_cons (ps_set (i := 2) nd rfl (Or.inl rfl) (pe_lst (pa_cons (pe_tup pa_nil) pa_nil))) (pss_cons (ps_for PassesOwn.never rfl (pi_range1 rfl T.b_range (pa_cons (pv 0) pa_nil)) (pg_name (i := 3) nd rfl (Or.inl rfl)) (pss_one (ps_setLc2 (i := 2) (own := [("word", 4), ("item", 5)]) (vs1 := [5]) (g := (gName 4)) (g1 := (gName 5)) (tt := tYes) (wi1 := (iRng1 (tCons (tVar 1) tNil))) (tt1 := tYes) (te := (tOp (rAddA K) (tVar 4) (tTup (tCons (tVar 5) tNil)))) rfl nd rfl rfl (sw_true rfl rfl rfl (by decide +kernel)) (pi_seq (pv 2)) (blkOk_by (N := N_all_words) (sc := defScope s_all_words) (by decide +kernel)) (by decide) (fun _ _ _ _ _ => (pg_name (i := 4) nd rfl (by first | exact Or.inl rfl | exact Or.inr rfl))) (fun _ _ _ _ _ => pts_nil) (fun _ _ _ _ _ => (pi_range1 rfl T.b_range (pa_cons (pv 1) pa_nil))) (fun _ _ _ _ _ => (pg_name (i := 5) nd rfl (by first | exact Or.inl rfl | exact Or.inr rfl))) (fun _ _ _ _ _ => pts_nil) (fun _ _ _ _ _ => (pe_op op_addA (pv 4) (pe_tup (pa_cons (pv 5) pa_nil))))))) (pss_one (ps_ret (pv 2))))), ?_⟩
  exact def_ok (N := N_all_words) ((rs_seq (rs_asg (rf_fr (ro_lst (ra_cons (rf_tup ra_nil) ra_nil)))) (rs_seq (rs_for (ri_range1 (ra_cons rf_var ra_nil)) rg_name (rs_asg (rf_fr (ro_lc2 (vs := [4, 5]) (vs1 := [5]) (ri_seq rf_var) (rgn_name (by decide)) rt_yes (ri_range1 (ra_cons rf_var ra_nil)) (rgn_name (by decide)) rt_yes (ro_leaf (rf_op (bi := true) rf_var (rf_tup (ra_cons rf_var ra_nil)) r2_add)))))) (rs_ret rf_var)))) h
abbrev N_Strong_init : List Str := ["self", "k", "l", "m"]
theorem sc_Strong_init : FnScope N_Strong_init ["self", "k", "l", "m"] (defScope s_Strong_init) := ⟨rfl, rfl, rfl, by decide +kernel, rfl, by decide +kernel, by decide +kernel⟩
theorem ok_Strong_init {P : Program} {w : World} {K : PySem.W.Frag} {mg : Str → Option Value} {base : Heap} {A : Ad} (T : Txt K mg A) {fd : FuncData} (F : Fun K "__init__" "Strong.__init__" s_Strong_init A.f_Strong_init fd) : FnOk P w K mg base CX0 1 A.f_Strong_init fd ["self", "k", "l", "m"] (spI K A.cl 3 1 m_Strong_init) := by
  refine F.ok sc_Strong_init (fun vs H Q E h => spI_len h) (fun cdv A0 outer s H vs Q E hr h => ?_)
  have nd := sc_Strong_init.nd
  have hu := hu_of hr
  refine ⟨_, (pss_cons (ps_fld (pv 0) (pv 1) rfl) (pss_cons (ps_fld (pv 0) (pv 2) rfl) (pss_cons (ps_fld (pv 0) (pv 3) rfl) pss_nil))), ?_⟩
  exact init_ok (N := N_Strong_init) ((rj_fld (cn := 1) (T.hok 1 "k" (by decide)).1 (T.hok 1 "k" (by decide)).2 rf_var (rj_fld (cn := 1) (T.hok 1 "l" (by decide)).1 (T.hok 1 "l" (by decide)).2 rf_var (rj_fld (cn := 1) (T.hok 1 "m" (by decide)).1 (T.hok 1 "m" (by decide)).2 rf_var rj_end)))) h
abbrev N_Strong_eq : List Str := ["self", "other"]
theorem sc_Strong_eq : FnScope N_Strong_eq ["self", "other"] (defScope s_Strong_eq) := ⟨rfl, rfl, rfl, by decide +kernel, rfl, by decide +kernel, by decide +kernel⟩
theorem ok_Strong_eq {P : Program} {w : World} {K : PySem.W.Frag} {mg : Str → Option Value} {base : Heap} {A : Ad} (T : Txt K mg A) {fd : FuncData} (F : Fun K "__eq__" "Strong.__eq__" s_Strong_eq A.f_Strong_eq fd) : FnOk P w K mg base CX0 1 A.f_Strong_eq fd ["self", "other"] (spD K A.cl 2 m_Strong_eq) := by
  refine F.ok sc_Strong_eq (fun vs H Q E h => spD_len h) (fun cdv A0 outer s H vs Q E hr h => ?_)
  have nd := sc_Strong_eq.nd
  have hu := hu_of hr
  refine ⟨_, (pss_one (ps_ret (pe_and (pe_callB call_isiA (by rfl) T.b_isinstance (by decide +kernel) (pa_cons (pv 1) (pa_cons (pe_glob (v := .ref (A.cl 1)) rfl T.m_Strong rfl) pa_nil))) (pe_one (pe_cmpR (op_eqD hr.units) (pe_tup (pa_cons (pe_fld (pv 0) rfl) (pa_cons (pe_fld (pv 0) rfl) (pa_cons (pe_fld (pv 0) rfl) pa_nil)))) (pe_tup (pa_cons (pe_fld (pv 1) rfl) (pa_cons (pe_fld (pv 1) rfl) (pa_cons (pe_fld (pv 1) rfl) pa_nil)))) (nomark _)))))), ?_⟩
  exact def_ok (N := N_Strong_eq) ((rs_ret (rf_and (bi := true) (rf_cb (bi := true) (ra_cons rf_var (ra_cons (rf_cls (c := 1)) ra_nil)) (rc_isi T.ck)) (rf_op (bi := true) (rf_tup (ra_cons (rf_fld (okc := okc) (fun c h => T.hok c "k" h) rf_var) (ra_cons (rf_fld (okc := okc) (fun c h => T.hok c "l" h) rf_var) (ra_cons (rf_fld (okc := okc) (fun c h => T.hok c "m" h) rf_var) ra_nil)))) (rf_tup (ra_cons (rf_fld (okc := okc) (fun c h => T.hok c "k" h) rf_var) (ra_cons (rf_fld (okc := okc) (fun c h => T.hok c "l" h) rf_var) (ra_cons (rf_fld (okc := okc) (fun c h => T.hok c "m" h) rf_var) ra_nil)))) r2_eq)))) h
abbrev N_NotStrong_init : List Str := ["self", "one", "other"]
theorem sc_NotStrong_init : FnScope N_NotStrong_init ["self", "one", "other"] (defScope s_NotStrong_init) := ⟨rfl, rfl, rfl, by decide +kernel, rfl, by decide +kernel, by decide +kernel⟩
theorem ok_NotStrong_init {P : Program} {w : World} {K : PySem.W.Frag} {mg : Str → Option Value} {base : Heap} {A : Ad} (T : Txt K mg A) {fd : FuncData} (F : Fun K "__init__" "NotStrong.__init__" s_NotStrong_init A.f_NotStrong_init fd) {fd_kept : FuncData} (G_kept : FnOk P w K mg base CX0 4 A.f_kept fd_kept ["value"] (spD K A.cl 1 (m_kept 3))) (B_kept : Binds K fd_kept ["value"] []) : FnOk P w K mg base CX0 5 A.f_NotStrong_init fd ["self", "one", "other"] (spI K A.cl 2 2 m_NotStrong_init) := by
  refine F.ok sc_NotStrong_init (fun vs H Q E h => spI_len h) (fun cdv A0 outer s H vs Q E hr h => ?_)
  have nd := sc_NotStrong_init.nd
  have hu := hu_of hr
  refine ⟨_, (pss_cons (ps_fld (pv 0) (pe_call G_kept (hr.mono (by omega)) rfl T.g_kept T.k_kept B_kept .nil pass0 (pa_cons (pv 1) pa_nil)) rfl) (pss_cons (ps_fld (pv 0) (pe_call G_kept (hr.mono (by omega)) rfl T.g_kept T.k_kept B_kept .nil pass0 (pa_cons (pv 2) pa_nil)) rfl) pss_nil)), ?_⟩
  exact init_ok (N := N_NotStrong_init) ((rj_fld (cn := 2) (T.hok 2 "one" (by decide)).1 (T.hok 2 "one" (by decide)).2 (rf_def (n := 1) (m := (m_kept 3)) (ra_cons rf_var ra_nil)) (rj_fld (cn := 2) (T.hok 2 "other" (by decide)).1 (T.hok 2 "other" (by decide)).2 (rf_def (n := 1) (m := (m_kept 3)) (ra_cons rf_var ra_nil)) rj_end))) h
abbrev N_NotStrong_eq : List Str := ["self", "other"]
theorem sc_NotStrong_eq : FnScope N_NotStrong_eq ["self", "other"] (defScope s_NotStrong_eq) := ⟨rfl, rfl, rfl, by decide +kernel, rfl, by decide +kernel, by decide +kernel⟩
theorem ok_NotStrong_eq {P : Program} {w : World} {K : PySem.W.Frag} {mg : Str → Option Value} {base : Heap} {A : Ad} (T : Txt K mg A) {fd : FuncData} (F : Fun K "__eq__" "NotStrong.__eq__" s_NotStrong_eq A.f_NotStrong_eq fd) : FnOk P w K mg base CX0 1 A.f_NotStrong_eq fd ["self", "other"] (spD K A.cl 2 m_NotStrong_eq) := by
  refine F.ok sc_NotStrong_eq (fun vs H Q E h => spD_len h) (fun cdv A0 outer s H vs Q E hr h => ?_)
  have nd := sc_NotStrong_eq.nd
  have hu := hu_of hr
  refine ⟨_, (pss_one (ps_ret (pe_and (pe_callB call_isiA (by rfl) T.b_isinstance (by decide +kernel) (pa_cons (pv 1) (pa_cons (pe_glob (v := .ref (A.cl 2)) rfl T.m_NotStrong rfl) pa_nil))) (pe_one (pe_cmpR (op_eqD hr.units) (pe_tup (pa_cons (pe_fld (pv 0) rfl) (pa_cons (pe_fld (pv 0) rfl) pa_nil))) (pe_tup (pa_cons (pe_fld (pv 1) rfl) (pa_cons (pe_fld (pv 1) rfl) pa_nil))) (nomark _)))))), ?_⟩
  exact def_ok (N := N_NotStrong_eq) ((rs_ret (rf_and (bi := true) (rf_cb (bi := true) (ra_cons rf_var (ra_cons (rf_cls (c := 2)) ra_nil)) (rc_isi T.ck)) (rf_op (bi := true) (rf_tup (ra_cons (rf_fld (okc := okc) (fun c h => T.hok c "one" h) rf_var) (ra_cons (rf_fld (okc := okc) (fun c h => T.hok c "other" h) rf_var) ra_nil))) (rf_tup (ra_cons (rf_fld (okc := okc) (fun c h => T.hok c "one" h) rf_var) (ra_cons (rf_fld (okc := okc) (fun c h => T.hok c "other" h) rf_var) ra_nil))) r2_eq)))) h
abbrev N_tie_rows : List Str := ["n", "ties", "x", "rows", "y"]
theorem sc_tie_rows : FnScope N_tie_rows ["n", "ties"] (defScope s_tie_rows) := ⟨rfl, rfl, rfl, by decide +kernel, rfl, by decide +kernel, by decide +kernel⟩
theorem ok_tie_rows {P : Program} {w : World} {K : PySem.W.Frag} {mg : Str → Option Value} {base : Heap} {A : Ad} (T : Txt K mg A) {fd : FuncData} (F : Fun K "tie_rows" "tie_rows" s_tie_rows A.f_tie_rows fd) {fd_of_web : FuncData} (G_of_web : FnOk P w K mg base CX0 6 A.f_of_web fd_of_web ["n", "ties"] (spD K A.cl 2 m_of_web)) (B_of_web : Binds K fd_of_web ["n", "ties"] []) : FnOk P w K mg base CX0 7 A.f_tie_rows fd ["n", "ties"] (spD K A.cl 2 m_tie_rows) := by
  refine F.ok sc_tie_rows (fun vs H Q E h => spD_len h) (fun cdv A0 outer s H vs Q E hr h => ?_)
  have nd := sc_tie_rows.nd
  have hu := hu_of hr
  refine ⟨_, (pss_cons (ps_expr (pe_call G_of_web (hr.mono (by omega)) rfl T.g_of_web T.k_of_web B_of_web .nil pass0 (pa_cons (pv 0) (pa_cons (pv 1) pa_nil)))) (pss_cons (ps_setLc (i := 3) (own := [("x", 2)]) (g := (gName 2)) (tt := tYes) (te := (tOp (rMulA K) (tLst (tCons (tC (.int 0)) tNil)) (tVar 0))) rfl nd rfl rfl (sw_true rfl rfl rfl (by decide +kernel)) (pi_range1 rfl T.b_range (pa_cons (pv 0) pa_nil)) (blkOk_by (N := N_tie_rows) (sc := defScope s_tie_rows) (by decide +kernel)) (fun _ _ _ _ _ => (pg_name (i := 2) nd rfl (by first | exact Or.inl rfl | exact Or.inr rfl))) (fun _ _ _ _ _ => pts_nil) (fun _ _ _ _ _ => (pe_op op_mulA (pe_lst (pa_cons pe_int pa_nil)) (pv 0)))) (pss_cons (ps_for PassesOwn.never rfl (pi_seq (pv 1)) (pg_tup rfl (pgs_cons (pg_name (i := 2) nd rfl (Or.inl rfl)) (pgs_cons (pg_name (i := 4) nd rfl (Or.inl rfl)) pgs_nil))) (pss_one (ps_asg (pe_tup (pa_cons pe_int (pa_cons pe_int pa_nil))) (pg_tup rfl (pgs_cons (pg_sub (pe_ix (ix_sub hu) (pv 3) (pv 2) (fun _ _ => rfl)) (pv 4) (set_any hu)) (pgs_cons (pg_sub (pe_ix (ix_sub hu) (pv 3) (pv 4) (fun _ _ => rfl)) (pv 2) (set_any hu)) pgs_nil)))))) (pss_one (ps_ret (pv 3)))))), ?_⟩
  exact def_ok (N := N_tie_rows) ((rs_seq (rs_drop (b := true) (rf_def (n := 2) (m := m_of_web) (ra_cons rf_var (ra_cons rf_var ra_nil)))) (rs_seq (rs_own (ro_lc (vs := [2]) (ri_range1 (ra_cons rf_var ra_nil)) (rgn_name (by decide)) rt_yes (ro_mul (ro_lst (ra_cons rf_int ra_nil)) rf_var))) (rs_seq (rs_for (ri_seq rf_var) (rg_tup (rgs_cons rg_name (rgs_cons rg_name rgs_nil))) (rs_asgG (rf_tup (ra_cons rf_int (ra_cons rf_int ra_nil))) (rg_tup (rgs_cons (rg_set (rl_ix rl_var rf_var) rf_var) (rgs_cons (rg_set (rl_ix rl_var rf_var) rf_var) rgs_nil))))) (rs_frz 3 (rs_ret rf_var)))))) h
abbrev N_both_tied : List Str := ["rows", "pair", "a", "b"]
theorem sc_both_tied : FnScope N_both_tied ["rows", "pair"] (defScope s_both_tied) := ⟨rfl, rfl, rfl, by decide +kernel, rfl, by decide +kernel, by decide +kernel⟩
theorem ok_both_tied {P : Program} {w : World} {K : PySem.W.Frag} {mg : Str → Option Value} {base : Heap} {A : Ad} (T : Txt K mg A) {fd : FuncData} (F : Fun K "both_tied" "both_tied" s_both_tied A.f_both_tied fd) : FnOk P w K mg base CX0 1 A.f_both_tied fd ["rows", "pair"] (spD K A.cl 2 m_both_tied) := by
  refine F.ok sc_both_tied (fun vs H Q E h => spD_len h) (fun cdv A0 outer s H vs Q E hr h => ?_)
  have nd := sc_both_tied.nd
  have hu := hu_of hr
  refine ⟨_, (pss_one (ps_ret (pe_callB (cr_sum rfl) (by rfl) T.b_sum (by decide +kernel) (pa_cons (pe_lc (own := [("a", 2), ("b", 3)]) (g := (gTup K 2 (gCons (gName 2) (gCons (gName 3) gNil)))) (tt := tYes) (te := (tOp (rMulA K) (tVar 2) (tVar 3))) rfl nd (RZ.pi_zipA rfl T.b_zip (pa_cons (pe_ix (ix_sub hu) (pv 0) (pe_ix (ix_sub hu) (pv 1) pe_int (fun _ _ => rfl)) (fun _ _ => rfl)) (pa_cons (pe_ix (ix_sub hu) (pv 0) (pe_ix (ix_sub hu) (pv 1) pe_int (fun _ _ => rfl)) (fun _ _ => rfl)) pa_nil))) (blkOk_by (N := N_both_tied) (sc := defScope s_both_tied) (by decide +kernel)) (fun _ _ _ _ _ => (pg_tup rfl (pgs_cons (pg_name (i := 2) nd rfl (by first | exact Or.inl rfl | exact Or.inr rfl)) (pgs_cons (pg_name (i := 3) nd rfl (by first | exact Or.inl rfl | exact Or.inr rfl)) pgs_nil)))) (fun _ _ _ _ _ => pts_nil) (fun _ _ _ _ _ => (pe_op op_mulA (pv 2) (pv 3)))) pa_nil)))), ?_⟩
  exact def_ok (N := N_both_tied) ((rs_ret (rf_cb (bi := true) (ra_cons (rf_fr (ro_lc (vs := [2, 3]) (ri_zip (ra_cons (rf_op (bi := true) rf_var (rf_op (bi := true) rf_var rf_int r2_sub2) r2_sub2) (ra_cons (rf_op (bi := true) rf_var (rf_op (bi := true) rf_var rf_int r2_sub2) r2_sub2) ra_nil))) (rgn_tup (rgns_cons (rgn_name (by decide)) (rgns_cons (rgn_name (by decide)) rgns_nil))) rt_yes (ro_leaf (rf_op (bi := true) rf_var rf_var r2_mul)))) ra_nil) rc_sum))) h
abbrev N_pair_sort : List Str := ["rows", "pair"]
theorem sc_pair_sort : FnScope N_pair_sort ["rows", "pair"] (defScope s_pair_sort) := ⟨rfl, rfl, rfl, by decide +kernel, rfl, by decide +kernel, by decide +kernel⟩
theorem ok_pair_sort {P : Program} {w : World} {K : PySem.W.Frag} {mg : Str → Option Value} {base : Heap} {A : Ad} (T : Txt K mg A) {fd : FuncData} (F : Fun K "pair_sort" "pair_sort" s_pair_sort A.f_pair_sort fd) : FnOk P w K mg base CX0 1 A.f_pair_sort fd ["rows", "pair"] (spD K A.cl 2 m_pair_sort) := by
  refine F.ok sc_pair_sort (fun vs H Q E h => spD_len h) (fun cdv A0 outer s H vs Q E hr h => ?_)
  have nd := sc_pair_sort.nd
  have hu := hu_of hr
  refine ⟨_, (pss_one (ps_ret (pe_ifExp (pt_cmpR (op_eqD hr.units) (pe_ix (ix_sub hu) (pv 1) pe_int (fun _ _ => rfl)) (pe_ix (ix_sub hu) (pv 1) pe_int (fun _ _ => rfl)) (nomark _)) pe_int (pe_op op_sub pe_int (pe_ix (ix_sub hu) (pe_ix (ix_sub hu) (pv 0) (pe_ix (ix_sub hu) (pv 1) pe_int (fun _ _ => rfl)) (fun _ _ => rfl)) (pe_ix (ix_sub hu) (pv 1) pe_int (fun _ _ => rfl)) (fun _ _ => rfl)))))), ?_⟩
  exact def_ok (N := N_pair_sort) ((rs_ret (rf_if (rt_test (b := true) (rf_op (bi := true) (rf_op (bi := true) rf_var rf_int r2_sub2) (rf_op (bi := true) rf_var rf_int r2_sub2) r2_eq)) rf_int (rf_op (bi := true) rf_int (rf_op (bi := true) (rf_op (bi := true) rf_var (rf_op (bi := true) rf_var rf_int r2_sub2) r2_sub2) (rf_op (bi := true) rf_var rf_int r2_sub2) r2_sub2) r2_sub)))) h
abbrev N_settled_strong : List Str := ["rows", "firsts", "pair", "sort", "told"]
theorem sc_settled_strong : FnScope N_settled_strong ["rows"] (defScope s_settled_strong) := ⟨rfl, rfl, rfl, by decide +kernel, rfl, by decide +kernel, by decide +kernel⟩
theorem ok_settled_strong {P : Program} {w : World} {K : PySem.W.Frag} {mg : Str → Option Value} {base : Heap} {A : Ad} (T : Txt K mg A) {fd : FuncData} (F : Fun K "settled_strong" "settled_strong" s_settled_strong A.f_settled_strong fd) {fd_all_words : FuncData} (G_all_words : FnOk P w K mg base CX0 1 A.f_all_words fd_all_words ["length", "letters"] (spD K A.cl 2 m_all_words)) (B_all_words : Binds K fd_all_words ["length", "letters"] []) {fd_Strong_init : FuncData} (G_Strong_init : FnOk P w K mg base CX0 1 A.f_Strong_init fd_Strong_init ["self", "k", "l", "m"] (spI K A.cl 3 1 m_Strong_init)) (B_Strong_init : Binds K fd_Strong_init ["self", "k", "l", "m"] []) {fd_pair_sort : FuncData} (G_pair_sort : FnOk P w K mg base CX0 1 A.f_pair_sort fd_pair_sort ["rows", "pair"] (spD K A.cl 2 m_pair_sort)) (B_pair_sort : Binds K fd_pair_sort ["rows", "pair"] []) {fd_NotStrong_init : FuncData} (G_NotStrong_init : FnOk P w K mg base CX0 5 A.f_NotStrong_init fd_NotStrong_init ["self", "one", "other"] (spI K A.cl 2 2 m_NotStrong_init)) (B_NotStrong_init : Binds K fd_NotStrong_init ["self", "one", "other"] []) {fd_both_tied : FuncData} (G_both_tied : FnOk P w K mg base CX0 1 A.f_both_tied fd_both_tied ["rows", "pair"] (spD K A.cl 2 m_both_tied)) (B_both_tied : Binds K fd_both_tied ["rows", "pair"] []) : FnOk P w K mg base CX0 7 A.f_settled_strong fd ["rows"] (spD K A.cl 1 m_settled_strong) := by
  refine F.ok sc_settled_strong (fun vs H Q E h => spD_len h) (fun cdv A0 outer s H vs Q E hr h => ?_)
  have nd := sc_settled_strong.nd
  have hu := hu_of hr
  refine ⟨_, (pss_cons (ps_set (i := 1) nd rfl (Or.inr rfl) pe_dnewK) (pss_cons (ps_for PassesOwn.never rfl (pi_seq (pe_call G_all_words (hr.mono (by omega)) rfl T.g_all_words T.k_all_words B_all_words .nil pass0 (pa_cons pe_int (pa_cons (pe_callB call_lenA (by rfl) T.b_len (by decide +kernel) (pa_cons (pv 0) pa_nil)) pa_nil)))) (pg_name (i := 2) nd rfl (Or.inl rfl)) (pss_cons (ps_set (i := 3) nd rfl (Or.inl rfl) (pe_call G_pair_sort (hr.mono (by omega)) rfl T.g_pair_sort T.k_pair_sort B_pair_sort .nil pass0 (pa_cons (pv 0) (pa_cons (pv 2) pa_nil)))) (pss_cons (ps_if (PW.pt (pw_and (pt_cmp (pc_din hu (pv 3) (pv 1))) (pw_and1 (pt_cmpR (op_neD hr.units) (pe_call G_both_tied (hr.mono (by omega)) rfl T.g_both_tied T.k_both_tied B_both_tied .nil pass0 (pa_cons (pv 0) (pa_cons (pe_ix (ix_sub hu) (pv 1) (pv 3) (fun _ _ => rfl)) pa_nil))) (pe_call G_both_tied (hr.mono (by omega)) rfl T.g_both_tied T.k_both_tied B_both_tied .nil pass0 (pa_cons (pv 0) (pa_cons (pv 2) pa_nil))) (nomark _))))) (pss_one (ps_ret (pe_make T.mk_NotStrong G_NotStrong_init (hr.mono (by omega)) rfl T.m_NotStrong B_NotStrong_init .nil pass0 (pa_cons (pe_ix (ix_sub hu) (pv 1) (pv 3) (fun _ _ => rfl)) (pa_cons (pv 2) pa_nil))))) pss_nil) (pss_one (ps_if (pt_cmp (pc_dnotin hu (pv 3) (pv 1))) (pss_one (ps_asg (pv 2) (pg_sub (pv 1) (pv 3) (set_any hu)))) pss_nil))))) (pss_cons (ps_setLc (i := 4) (own := [("sort", 3)]) (g := (gName 3)) (tt := tYes) (te := (tIf (tB (tDIn (tVar 3) (tVar 1))) (tCall (spD K A.cl 2 m_both_tied) [] E0 (tCons (tVar 0) (tCons (tOp (rSub K) (tVar 1) (tVar 3)) tNil))) (tC .non))) rfl nd rfl rfl (sw_true rfl rfl rfl (by decide +kernel)) (pi_range1 rfl T.b_range (pa_cons pe_int pa_nil)) (blkOk_by (N := N_settled_strong) (sc := defScope s_settled_strong) (by decide +kernel)) (fun _ _ _ _ _ => (pg_name (i := 3) nd rfl (by first | exact Or.inl rfl | exact Or.inr rfl))) (fun _ _ _ _ _ => pts_nil) (fun _ _ _ _ _ => (pe_ifExp (pt_cmp (pc_din hu (pv 3) (pv 1))) (pe_call G_both_tied (hr.mono (by omega)) rfl T.g_both_tied T.k_both_tied B_both_tied .nil pass0 (pa_cons (pv 0) (pa_cons (pe_ix (ix_sub hu) (pv 1) (pv 3) (fun _ _ => rfl)) pa_nil))) pe_non))) (pss_one (ps_ret (pe_make T.mk_Strong G_Strong_init (hr.mono (by omega)) rfl T.m_Strong B_Strong_init .nil pass0 (pa_cons (pe_ix (ix_sub hu) (pv 4) pe_int (fun _ _ => rfl)) (pa_cons (pe_ix (ix_sub hu) (pv 4) pe_int (fun _ _ => rfl)) (pa_cons (pe_ix (ix_sub hu) (pv 4) pe_int (fun _ _ => rfl)) pa_nil))))))))), ?_⟩
  exact def_ok (N := N_settled_strong) ((rs_seq (rs_own ro_dK) (rs_seq (rs_for (ri_seq (rf_def (n := 2) (m := m_all_words) (ra_cons rf_int (ra_cons (rf_cb (bi := true) (ra_cons rf_var ra_nil) rc_len) ra_nil)))) rg_name (rs_seq (rs_asg (rf_def (n := 2) (m := m_pair_sort) (ra_cons rf_var (ra_cons rf_var ra_nil)))) (rs_seq (rs_if (rt_and (rt_B (b := true) (rf_all (rf_din rf_var rf_var))) (rt_test (b := true) (rf_op (bi := true) (rf_def (n := 2) (m := m_both_tied) (ra_cons rf_var (ra_cons (rf_at (rl_ix rl_var rf_var)) ra_nil))) (rf_def (n := 2) (m := m_both_tied) (ra_cons rf_var (ra_cons rf_var ra_nil))) r2_ne))) (rs_ret (rf_make (cn := 2) (n := 2) (m := m_NotStrong_init) (ra_cons (rf_at (rl_ix rl_var rf_var)) (ra_cons rf_var ra_nil)))) rs_next) (rs_if (rt_B (b := true) (rf_all (rf_dnotin rf_var rf_var))) (rs_asgG rf_var (rg_set rl_var rf_var)) rs_next)))) (rs_seq (rs_asg (rf_fr (ro_lc (vs := [3]) (ri_range1 (ra_cons rf_int ra_nil)) (rgn_name (by decide)) rt_yes (ro_leaf (rf_if (rt_B (b := true) (rf_all (rf_din rf_var rf_var))) (rf_def (n := 2) (m := m_both_tied) (ra_cons rf_var (ra_cons (rf_at (rl_ix rl_var rf_var)) ra_nil))) rf_non))))) (rs_ret (rf_make (cn := 1) (n := 3) (m := m_Strong_init) (ra_cons (rf_op (bi := true) rf_var rf_int r2_sub2) (ra_cons (rf_op (bi := true) rf_var rf_int r2_sub2) (ra_cons (rf_op (bi := true) rf_var rf_int r2_sub2) ra_nil))))))))) h
abbrev N_is_pair_of_things : List Str := ["n", "value", "item"]
theorem sc_is_pair_of_things : FnScope N_is_pair_of_things ["n", "value"] (defScope s_is_pair_of_things) := ⟨rfl, rfl, rfl, by decide +kernel, rfl, by decide +kernel, by decide +kernel⟩
theorem ok_is_pair_of_things {P : Program} {w : World} {K : PySem.W.Frag} {mg : Str → Option Value} {base : Heap} {A : Ad} (T : Txt K mg A) {fd : FuncData} (F : Fun K "is_pair_of_things" "is_pair_of_things" s_is_pair_of_things A.f_is_pair_of_things fd) {fd_is_thing : FuncData} (G_is_thing : FnOk P w K mg base CX0 2 A.f_is_thing fd_is_thing ["many", "value"] (spD K A.cl 2 m_is_thing)) (B_is_thing : Binds K fd_is_thing ["many", "value"] []) : FnOk P w K mg base CX0 3 A.f_is_pair_of_things fd ["n", "value"] (spD K A.cl 2 m_is_pair_of_things) := by
  refine F.ok sc_is_pair_of_things (fun vs H Q E h => spD_len h) (fun cdv A0 outer s H vs Q E hr h => ?_)
  have nd := sc_is_pair_of_things.nd
  have hu := hu_of hr
  refine ⟨_, (pss_one (ps_ret (pe_and (pe_callB call_isiA (by rfl) T.b_isinstance (by decide +kernel) (pa_cons (pv 1) (pa_cons (pe_bltn (v := .ty "tuple") (u := .type "tuple") (by rfl) T.b_tuple (by decide +kernel) rfl) pa_nil))) (pe_and (pe_cmpR (op_eqD hr.units) (pe_callB call_lenA (by rfl) T.b_len (by decide +kernel) (pa_cons (pv 1) pa_nil)) pe_int (nomark _)) (pe_one (pe_callB (cr_all rfl) (by rfl) T.b_all (by decide +kernel) (pa_cons (pe_lc (own := [("item", 2)]) (g := (gName 2)) (tt := tYes) (te := (tCall (spD K A.cl 2 m_is_thing) [] E0 (tCons (tVar 0) (tCons (tVar 2) tNil)))) rfl nd (pi_seq (pv 1)) (blkOk_by (N := N_is_pair_of_things) (sc := defScope s_is_pair_of_things) (by decide +kernel)) (fun _ _ _ _ _ => (pg_name (i := 2) nd rfl (by first | exact Or.inl rfl | exact Or.inr rfl))) (fun _ _ _ _ _ => pts_nil) (fun _ _ _ _ _ => (pe_call G_is_thing (hr.mono (by omega)) rfl T.g_is_thing T.k_is_thing B_is_thing .nil pass0 (pa_cons (pv 0) (pa_cons (pv 2) pa_nil))))) pa_nil))))))), ?_⟩
  exact def_ok (N := N_is_pair_of_things) ((rs_ret (rf_and (bi := true) (rf_cb (bi := true) (ra_cons rf_var (ra_cons rf_ty ra_nil)) (rc_isi T.ck)) (rf_and (bi := true) (rf_op (bi := true) (rf_cb (bi := true) (ra_cons rf_var ra_nil) rc_len) rf_int r2_eq) (rf_cb (bi := true) (ra_cons (rf_fr (ro_lc (vs := [2]) (ri_seq rf_var) (rgn_name (by decide)) rt_yes (ro_leaf (rf_def (n := 2) (m := m_is_thing) (ra_cons rf_var (ra_cons rf_var ra_nil)))))) ra_nil) rc_all))))) h
abbrev N_strong_fault : List Str := ["n", "ties", "answer", "rows", "due", "told", "item"]
theorem sc_strong_fault : FnScope N_strong_fault ["n", "ties", "answer"] (defScope s_strong_fault) := ⟨rfl, rfl, rfl, by decide +kernel, rfl, by decide +kernel, by decide +kernel⟩
theorem ok_strong_fault {P : Program} {w : World} {K : PySem.W.Frag} {mg : Str → Option Value} {base : Heap} {A : Ad} (T : Txt K mg A) {fd : FuncData} (F : Fun K "strong_fault" "strong_fault" s_strong_fault A.f_strong_fault fd) {fd_tie_rows : FuncData} (G_tie_rows : FnOk P w K mg base CX0 7 A.f_tie_rows fd_tie_rows ["n", "ties"] (spD K A.cl 2 m_tie_rows)) (B_tie_rows : Binds K fd_tie_rows ["n", "ties"] []) {fd_settled_strong : FuncData} (G_settled_strong : FnOk P w K mg base CX0 7 A.f_settled_strong fd_settled_strong ["rows"] (spD K A.cl 1 m_settled_strong)) (B_settled_strong : Binds K fd_settled_strong ["rows"] []) {fd_is_pair_of_things : FuncData} (G_is_pair_of_things : FnOk P w K mg base CX0 3 A.f_is_pair_of_things fd_is_pair_of_things ["n", "value"] (spD K A.cl 2 m_is_pair_of_things)) (B_is_pair_of_things : Binds K fd_is_pair_of_things ["n", "value"] []) {fd_pair_sort : FuncData} (G_pair_sort : FnOk P w K mg base CX0 1 A.f_pair_sort fd_pair_sort ["rows", "pair"] (spD K A.cl 2 m_pair_sort)) (B_pair_sort : Binds K fd_pair_sort ["rows", "pair"] []) {fd_both_tied : FuncData} (G_both_tied : FnOk P w K mg base CX0 1 A.f_both_tied fd_both_tied ["rows", "pair"] (spD K A.cl 2 m_both_tied)) (B_both_tied : Binds K fd_both_tied ["rows", "pair"] []) {fd_Strong_eq : FuncData} (G_Strong_eq : FnOk P w K mg base CX0 1 A.f_Strong_eq fd_Strong_eq ["self", "other"] (spD K A.cl 2 m_Strong_eq)) (B_Strong_eq : Binds K fd_Strong_eq ["self", "other"] []) : FnOk P w K mg base CX0 8 A.f_strong_fault fd ["n", "ties", "answer"] (spD K A.cl 3 m_strong_fault) := by
  refine F.ok sc_strong_fault (fun vs H Q E h => spD_len h) (fun cdv A0 outer s H vs Q E hr h => ?_)
  have nd := sc_strong_fault.nd
  have hu := hu_of hr
  refine ⟨_, (pss_cons (ps_set (i := 3) nd rfl (Or.inl rfl) (pe_call G_tie_rows (hr.mono (by omega)) rfl T.g_tie_rows T.k_tie_rows B_tie_rows .nil pass0 (pa_cons (pv 0) (pa_cons (pv 1) pa_nil)))) (pss_cons (ps_set (i := 4) nd rfl (Or.inl rfl) (pe_call G_settled_strong (hr.mono (by omega)) rfl T.g_settled_strong T.k_settled_strong B_settled_strong .nil pass0 (pa_cons (pv 3) pa_nil))) (pss_cons (ps_if (pt_val (pe_callB call_isiA (by rfl) T.b_isinstance (by decide +kernel) (pa_cons (pv 2) (pa_cons (pe_glob (v := .ref (A.cl 1)) rfl T.m_Strong rfl) pa_nil)))) (pss_cons (ps_if (pt_val (pe_callB call_isiA (by rfl) T.b_isinstance (by decide +kernel) (pa_cons (pv 4) (pa_cons (pe_glob (v := .ref (A.cl 2)) rfl T.m_NotStrong rfl) pa_nil)))) (pss_one (ps_ret (pe_tup (pa_cons pe_str pa_nil)))) pss_nil) (pss_cons (ps_set (i := 5) nd rfl (Or.inl rfl) (pe_tup (pa_cons (pe_fld (pv 2) rfl) (pa_cons (pe_fld (pv 2) rfl) (pa_cons (pe_fld (pv 2) rfl) pa_nil))))) (pss_one (ps_ret (pe_ifExp (PW.pt (pw_and (pt_cmpR (op_ownEq T.oq_Strong G_Strong_eq (hr.mono (by omega)) B_Strong_eq pass0) (pv 2) (pv 4) (nomark _)) (pw_and1 (pt_not (pt_val (pe_callB (cr_any rfl) (by rfl) T.b_any (by decide +kernel) (pa_cons (pe_lc (own := [("item", 6)]) (g := (gName 6)) (tt := tYes) (te := (tCB (rIsiA K) (tCons (tVar 6) (tCons (tC (.ty "bool")) tNil)))) rfl nd (pi_seq (pv 5)) (blkOk_by (N := N_strong_fault) (sc := defScope s_strong_fault) (by decide +kernel)) (fun _ _ _ _ _ => (pg_name (i := 6) nd rfl (by first | exact Or.inl rfl | exact Or.inr rfl))) (fun _ _ _ _ _ => pts_nil) (fun _ _ _ _ _ => (pe_callB call_isiA (by rfl) T.b_isinstance (by decide +kernel) (pa_cons (pv 6) (pa_cons (pe_bltn (v := .ty "bool") (u := .type "bool") (by rfl) T.b_bool (by decide +kernel) rfl) pa_nil))))) pa_nil))))))) pe_non (pe_tup (pa_cons pe_str pa_nil))))))) pss_nil) (pss_cons (ps_if (pt_not (pt_val (pe_callB call_isiA (by rfl) T.b_isinstance (by decide +kernel) (pa_cons (pv 2) (pa_cons (pe_glob (v := .ref (A.cl 2)) rfl T.m_NotStrong rfl) pa_nil))))) (pss_one (ps_ret (pe_tup (pa_cons pe_str pa_nil)))) pss_nil) (pss_cons (ps_if (pt_not (pt_val (pe_call G_is_pair_of_things (hr.mono (by omega)) rfl T.g_is_pair_of_things T.k_is_pair_of_things B_is_pair_of_things .nil pass0 (pa_cons (pv 0) (pa_cons (pe_fld (pv 2) rfl) pa_nil))))) (pss_one (ps_ret (pe_tup (pa_cons pe_str pa_nil)))) pss_nil) (pss_cons (ps_if (pt_not (pt_val (pe_call G_is_pair_of_things (hr.mono (by omega)) rfl T.g_is_pair_of_things T.k_is_pair_of_things B_is_pair_of_things .nil pass0 (pa_cons (pv 0) (pa_cons (pe_fld (pv 2) rfl) pa_nil))))) (pss_one (ps_ret (pe_tup (pa_cons pe_str pa_nil)))) pss_nil) (pss_cons (ps_if (pt_cmpR (op_neD hr.units) (pe_call G_pair_sort (hr.mono (by omega)) rfl T.g_pair_sort T.k_pair_sort B_pair_sort .nil pass0 (pa_cons (pv 3) (pa_cons (pe_fld (pv 2) rfl) pa_nil))) (pe_call G_pair_sort (hr.mono (by omega)) rfl T.g_pair_sort T.k_pair_sort B_pair_sort .nil pass0 (pa_cons (pv 3) (pa_cons (pe_fld (pv 2) rfl) pa_nil))) (nomark _)) (pss_one (ps_ret (pe_tup (pa_cons pe_str pa_nil)))) pss_nil) (pss_one (ps_ret (pe_ifExp (pt_cmpR (op_neD hr.units) (pe_call G_both_tied (hr.mono (by omega)) rfl T.g_both_tied T.k_both_tied B_both_tied .nil pass0 (pa_cons (pv 3) (pa_cons (pe_fld (pv 2) rfl) pa_nil))) (pe_call G_both_tied (hr.mono (by omega)) rfl T.g_both_tied T.k_both_tied B_both_tied .nil pass0 (pa_cons (pv 3) (pa_cons (pe_fld (pv 2) rfl) pa_nil))) (nomark _)) pe_non (pe_tup (pa_cons pe_str pa_nil)))))))))))), ?_⟩
  exact def_ok (N := N_strong_fault) ((rs_seq (rs_asg (rf_def (n := 2) (m := m_tie_rows) (ra_cons rf_var (ra_cons rf_var ra_nil)))) (rs_seq (rs_asg (rf_def (n := 1) (m := m_settled_strong) (ra_cons rf_var ra_nil))) (rs_seq (rs_if (rt_B (b := true) (rf_cb (bi := true) (ra_cons rf_var (ra_cons (rf_cls (c := 1)) ra_nil)) (rc_isi T.ck))) (rs_seq (rs_if (rt_B (b := true) (rf_cb (bi := true) (ra_cons rf_var (ra_cons (rf_cls (c := 2)) ra_nil)) (rc_isi T.ck))) (rs_ret (rf_tup (ra_cons rf_str ra_nil))) rs_next) (rs_seq (rs_asg (rf_tup (ra_cons (rf_fld (okc := okc) (fun c h => T.hok c "k" h) rf_var) (ra_cons (rf_fld (okc := okc) (fun c h => T.hok c "l" h) rf_var) (ra_cons (rf_fld (okc := okc) (fun c h => T.hok c "m" h) rf_var) ra_nil))))) (rs_ret (rf_if (rt_and (rt_test (b := true) (rf_own (n := 3) (c := 1) (fun c h => T.nf 1 c (by decide) h) rf_var rf_var)) (rt_not (rt_B (b := true) (rf_cb (bi := true) (ra_cons (rf_fr (ro_lc (vs := [6]) (ri_seq rf_var) (rgn_name (by decide)) rt_yes (ro_leaf (rf_cb (bi := true) (ra_cons rf_var (ra_cons rf_ty ra_nil)) (rc_isi T.ck))))) ra_nil) rc_any)))) rf_non (rf_tup (ra_cons rf_str ra_nil)))))) rs_next) (rs_seq (rs_if (rt_not (rt_B (b := true) (rf_cb (bi := true) (ra_cons rf_var (ra_cons (rf_cls (c := 2)) ra_nil)) (rc_isi T.ck)))) (rs_ret (rf_tup (ra_cons rf_str ra_nil))) rs_next) (rs_seq (rs_if (rt_not (rt_B (b := true) (rf_def (n := 2) (m := m_is_pair_of_things) (ra_cons rf_var (ra_cons (rf_fld (okc := okc) (fun c h => T.hok c "one" h) rf_var) ra_nil))))) (rs_ret (rf_tup (ra_cons rf_str ra_nil))) rs_next) (rs_seq (rs_if (rt_not (rt_B (b := true) (rf_def (n := 2) (m := m_is_pair_of_things) (ra_cons rf_var (ra_cons (rf_fld (okc := okc) (fun c h => T.hok c "other" h) rf_var) ra_nil))))) (rs_ret (rf_tup (ra_cons rf_str ra_nil))) rs_next) (rs_seq (rs_if (rt_test (b := true) (rf_op (bi := true) (rf_def (n := 2) (m := m_pair_sort) (ra_cons rf_var (ra_cons (rf_fld (okc := okc) (fun c h => T.hok c "one" h) rf_var) ra_nil))) (rf_def (n := 2) (m := m_pair_sort) (ra_cons rf_var (ra_cons (rf_fld (okc := okc) (fun c h => T.hok c "other" h) rf_var) ra_nil))) r2_ne)) (rs_ret (rf_tup (ra_cons rf_str ra_nil))) rs_next) (rs_ret (rf_if (rt_test (b := true) (rf_op (bi := true) (rf_def (n := 2) (m := m_both_tied) (ra_cons rf_var (ra_cons (rf_fld (okc := okc) (fun c h => T.hok c "one" h) rf_var) ra_nil))) (rf_def (n := 2) (m := m_both_tied) (ra_cons rf_var (ra_cons (rf_fld (okc := okc) (fun c h => T.hok c "other" h) rf_var) ra_nil))) r2_ne)) rf_non (rf_tup (ra_cons rf_str ra_nil)))))))))))) h
abbrev N__law_pen : List Str := ["script", "fold", "cell"]
theorem sc__law_pen : FnScope N__law_pen ["script"] (defScope s__law_pen) := ⟨rfl, rfl, rfl, by decide +kernel, rfl, by decide +kernel, by decide +kernel⟩
theorem ok__law_pen {P : Program} {w : World} {K : PySem.W.Frag} {mg : Str → Option Value} {base : Heap} {A : Ad} (T : Txt K mg A) {fd : FuncData} (F : Fun K "_law_pen" "_law_pen" s__law_pen A.f__law_pen fd) : FnOk P w K mg base CX0 1 A.f__law_pen fd ["script"] (spPen K) := by
  refine F.ok sc__law_pen (fun vs H Q E h => by obtain ⟨_, _, rfl, _⟩ := h; rfl) (fun cdv A0 outer s H vs Q E hr h => ?_)
  have nd := sc__law_pen.nd
  have hu := hu_of hr
  exact ⟨_, pss_cons (ps_set (i := 1) nd rfl (Or.inl rfl) pe_int)
    (pss_cons (ps_for PassesOwn.never rfl (pi_list (pv 0)) (pg_name (i := 2) nd rfl (Or.inl rfl))
      (pss_one (ps_set (i := 1) nd rfl (Or.inl rfl) (pe_op op_mod (pe_callTy call_int1 (by rfl) T.b_int (by decide +kernel) (pa_cons (pe_op op_addA (pe_op op_mulA (pv 1) pe_int) (pv 2)) pa_nil)) pe_int))))
    (pss_one (ps_ret (pe_disp (pps_cons pe_str (pe_callTy call_list_of (by rfl) T.b_list (by decide +kernel) (pa_cons (pv 0) pa_nil)) (pps_cons pe_str pe_int (pps_cons pe_str pe_int (pps_cons pe_str pe_int (pps_cons pe_str (pv 1) pps_nil))))) rfl rfl (by simp) (by decide))))), pure_pen h⟩
abbrev N__law_draw : List Str := ["pen", "many", "cell", "digit", "mixed"]
theorem sc__law_draw : FnScope N__law_draw ["pen", "many"] (defScope s__law_draw) := ⟨rfl, rfl, rfl, by decide +kernel, rfl, by decide +kernel, by decide +kernel⟩
theorem ok__law_draw {P : Program} {w : World} {K : PySem.W.Frag} {mg : Str → Option Value} {base : Heap} {A : Ad} (T : Txt K mg A) {fd : FuncData} (F : Fun K "_law_draw" "_law_draw" s__law_draw A.f__law_draw fd) : FnOk P w K mg base CX0 1 A.f__law_draw fd ["pen", "many"] (spDraw K) := by
  refine F.ok sc__law_draw (fun vs H Q E h => by obtain ⟨_, _, _, _, rfl, _⟩ := h; rfl) (fun cdv A0 outer s H vs Q E hr h => ?_)
  have nd := sc__law_draw.nd
  have hu := hu_of hr
  exact ⟨tDraw K, pss_cons (ps_dput hu (pv 0) pe_str (pe_op op_addA (pe_dget hu (pv 0) pe_str (fun _ _ => rfl)) pe_int) rfl)
    (pss_cons (ps_if (PW.pt (pw_and (pt_cmpR op_eq (pe_dget hu (pv 0) pe_str (fun _ _ => rfl)) pe_int (nomark _)) (pw_and1 (pt_cmpR op_lt (pe_dget hu (pv 0) pe_str (fun _ _ => rfl)) (pe_callB call_lenA (by rfl) T.b_len (by decide +kernel) (pa_cons (pe_dget hu (pv 0) pe_str (fun _ _ => rfl)) pa_nil)) (nomark _)))))
      (pss_cons (ps_set (i := 2) nd rfl (Or.inl rfl) (pe_ix (ix_sub hu) (pe_dget hu (pv 0) pe_str (fun _ _ => rfl)) (pe_dget hu (pv 0) pe_str (fun _ _ => rfl)) (fun _ _ => rfl)))
        (pss_cons (ps_dput hu (pv 0) pe_str (pe_op op_addA (pe_dget hu (pv 0) pe_str (fun _ _ => rfl)) pe_int) rfl)
          (pss_one (ps_if (pt_cmpR op_ge (pv 2) (pe_op op_pow pe_int pe_int) (nomark _))
            (pss_one (ps_dput hu (pv 0) pe_str (pe_op op_sub (pv 2) (pe_op op_pow pe_int pe_int)) rfl))
            (pss_one (ps_dput hu (pv 0) pe_str (pe_op op_mod (pe_callTy call_int1 (by rfl) T.b_int (by decide +kernel) (pa_cons (pe_op op_addA (pe_op op_mulA (pe_dget hu (pv 0) pe_str (fun _ _ => rfl)) pe_int) (pv 2)) pa_nil)) pe_int) rfl))))))
      pss_nil)
    (pss_cons (ps_if (pt_cmpR op_gt (pe_dget hu (pv 0) pe_str (fun _ _ => rfl)) pe_int (nomark _))
      (pss_cons (ps_set (i := 3) nd rfl (Or.inl rfl) (pe_op op_mod (pe_callTy call_int1 (by rfl) T.b_int (by decide +kernel) (pa_cons (pe_dget hu (pv 0) pe_str (fun _ _ => rfl)) pa_nil)) (pv 1)))
        (pss_cons (ps_dput hu (pv 0) pe_str (pe_op op_fdivW (pe_dget hu (pv 0) pe_str (fun _ _ => rfl)) (pv 1)) rfl) (pss_one (ps_ret (pv 3)))))
      pss_nil)
    (pss_cons (ps_set (i := 4) nd rfl (Or.inl rfl) (pe_op op_addA (pe_op op_addA (pe_dget hu (pv 0) pe_str (fun _ _ => rfl)) (pe_op op_mulA (pe_dget hu (pv 0) pe_str (fun _ _ => rfl)) pe_int)) pe_int))
      (pss_one (ps_ret (pe_op op_mod (pe_op op_fdivW (pe_callTy call_int1 (by rfl) T.b_int (by decide +kernel) (pa_cons (pe_op op_mod (pe_op op_pow (pv 4) pe_int) pe_int) pa_nil)) pe_int) (pv 1))))))), pure_draw h⟩
abbrev N__law_pick : List Str := ["pen", "some"]
theorem sc__law_pick : FnScope N__law_pick ["pen", "some"] (defScope s__law_pick) := ⟨rfl, rfl, rfl, by decide +kernel, rfl, by decide +kernel, by decide +kernel⟩
theorem ok__law_pick {P : Program} {w : World} {K : PySem.W.Frag} {mg : Str → Option Value} {base : Heap} {A : Ad} (T : Txt K mg A) {fd : FuncData} (F : Fun K "_law_pick" "_law_pick" s__law_pick A.f__law_pick fd) {fd__law_draw : FuncData} (G__law_draw : FnOk P w K mg base CX0 1 A.f__law_draw fd__law_draw ["pen", "many"] (spDraw K)) (B__law_draw : Binds K fd__law_draw ["pen", "many"] []) : FnOk P w K mg base CX0 2 A.f__law_pick fd ["pen", "some"] (spD K A.cl 2 m__law_pick) := by
  refine F.ok sc__law_pick (fun vs H Q E h => spD_len h) (fun cdv A0 outer s H vs Q E hr h => ?_)
  have nd := sc__law_pick.nd
  have hu := hu_of hr
  refine ⟨_, (pss_one (ps_ret (pe_ix (ix_sub hu) (pv 1) (pe_call G__law_draw (hr.mono (by omega)) rfl T.g__law_draw T.k__law_draw B__law_draw .nil pass0 (pa_cons (pv 0) (pa_cons (pe_callB call_lenA (by rfl) T.b_len (by decide +kernel) (pa_cons (pv 1) pa_nil)) pa_nil))) (fun _ _ => rfl)))), ?_⟩
  exact def_ok (N := N__law_pick) ((rs_ret (rf_op (bi := true) rf_var (rf_draw (ra_cons rf_var (ra_cons (rf_cb (bi := true) (ra_cons rf_var ra_nil) rc_len) ra_nil))) r2_sub2))) h
abbrev N__law_shuffled : List Str := ["pen", "some", "rest", "found", "lap"]
theorem sc__law_shuffled : FnScope N__law_shuffled ["pen", "some"] (defScope s__law_shuffled) := ⟨rfl, rfl, rfl, by decide +kernel, rfl, by decide +kernel, by decide +kernel⟩
theorem ok__law_shuffled {P : Program} {w : World} {K : PySem.W.Frag} {mg : Str → Option Value} {base : Heap} {A : Ad} (T : Txt K mg A) {fd : FuncData} (F : Fun K "_law_shuffled" "_law_shuffled" s__law_shuffled A.f__law_shuffled fd) {fd__law_draw : FuncData} (G__law_draw : FnOk P w K mg base CX0 1 A.f__law_draw fd__law_draw ["pen", "many"] (spDraw K)) (B__law_draw : Binds K fd__law_draw ["pen", "many"] []) : FnOk P w K mg base CX0 2 A.f__law_shuffled fd ["pen", "some"] (spD K A.cl 2 m__law_shuffled) := by
  refine F.ok sc__law_shuffled (fun vs H Q E h => spD_len h) (fun cdv A0 outer s H vs Q E hr h => ?_)
  have nd := sc__law_shuffled.nd
  have hu := hu_of hr
  refine ⟨_, (pss_cons (ps_par (i := 2) (j := 3) rfl nd rfl rfl (by decide) rfl rfl (pa_cons (pe_callTy (call_listA rfl) (by rfl) T.b_list (by decide +kernel) (pa_cons (pv 1) pa_nil)) (pa_cons (pe_lst pa_nil) pa_nil)) (by rfl)) (pss_cons (ps_for PassesOwn.never rfl (pi_range1 rfl T.b_range (pa_cons (pe_callB call_lenA (by rfl) T.b_len (by decide +kernel) (pa_cons (pv 1) pa_nil)) pa_nil)) (pg_name (i := 4) nd rfl (Or.inl rfl)) (pss_one (ps_expr (pe_bm PySem.F.plainAttrs_list PySem.F.slot_list_append PySem.F.type_list_append mt_append (pv 3) (pa_cons (pe_bm PySem.F.plainAttrs_list PySem.F.slot_list_pop PySem.F.type_list_pop mt_popAt (pv 2) (pa_cons (pe_call G__law_draw (hr.mono (by omega)) rfl T.g__law_draw T.k__law_draw B__law_draw .nil pass0 (pa_cons (pv 0) (pa_cons (pe_callB call_lenA (by rfl) T.b_len (by decide +kernel) (pa_cons (pv 2) pa_nil)) pa_nil))) pa_nil)) pa_nil))))) (pss_one (ps_ret (pv 3))))), ?_⟩
  exact def_ok (N := N__law_shuffled) ((rs_seq (rs_parO (rao_cons (ro_listA (ra_cons rf_var ra_nil)) (rao_cons (ro_lst ra_nil) rao_nil))) (rs_seq (rs_for (ri_range1 (ra_cons (rf_cb (bi := true) (ra_cons rf_var ra_nil) rc_len) ra_nil)) rg_name (rs_appPop (rf_draw (ra_cons rf_var (ra_cons (rf_all (rf_cb (bi := true) (ra_cons rf_var ra_nil) rc_len)) ra_nil))))) (rs_frz 3 (rs_ret rf_var))))) h
abbrev N__law_e_lots : List Str := ["many", "size", "found", "lap", "longer", "lot", "first", "item"]
theorem sc__law_e_lots : FnScope N__law_e_lots ["many", "size"] (defScope s__law_e_lots) := ⟨rfl, rfl, rfl, by decide +kernel, rfl, by decide +kernel, by decide +kernel⟩
theorem ok__law_e_lots {P : Program} {w : World} {K : PySem.W.Frag} {mg : Str → Option Value} {base : Heap} {A : Ad} (T : Txt K mg A) {fd : FuncData} (F : Fun K "_law_e_lots" "_law_e_lots" s__law_e_lots A.f__law_e_lots fd) : FnOk P w K mg base CX0 1 A.f__law_e_lots fd ["many", "size"] (spD K A.cl 2 m__law_e_lots) := by
  refine F.ok sc__law_e_lots (fun vs H Q E h => spD_len h) (fun cdv A0 outer s H vs Q E hr h => ?_)
  have nd := sc__law_e_lots.nd
  have hu := hu_of hr
  refine ⟨_, (pss_cons (ps_set (i := 2) nd rfl (Or.inl rfl) (pe_lst (pa_cons (pe_tup pa_nil) pa_nil))) (pss_cons (ps_for PassesOwn.never rfl (pi_range1 rfl T.b_range (pa_cons (pv 1) pa_nil)) (pg_name (i := 3) nd rfl (Or.inl rfl)) (pss_cons (ps_set (i := 4) nd rfl (Or.inl rfl) (pe_lst pa_nil)) (pss_cons (ps_for PassesOwn.never rfl (pi_seq (pv 2)) (pg_name (i := 5) nd rfl (Or.inr rfl)) (pss_cons (ps_set (i := 6) nd rfl (Or.inl rfl) (pe_ifExp (pt_cmpR (op_neD hr.units) (pv 5) (pe_tup pa_nil) (nomark _)) (pe_op op_addA (pe_ix (ix_sub hu) (pv 5) (pe_un un_neg pe_int) (fun _ _ => rfl)) pe_int) pe_int)) (pss_one (ps_set (i := 4) nd rfl (Or.inl rfl) (pe_op op_addA (pv 4) (pe_lc (own := [("item", 7)]) (g := (gName 7)) (tt := tYes) (te := (tOp (rAddA K) (tVar 5) (tTup (tCons (tVar 7) tNil)))) rfl nd (pi_range2 rfl T.b_range (pa_cons (pv 6) (pa_cons (pv 0) pa_nil))) (blkOk_by (N := N__law_e_lots) (sc := defScope s__law_e_lots) (by decide +kernel)) (fun _ _ _ _ _ => (pg_name (i := 7) nd rfl (by first | exact Or.inl rfl | exact Or.inr rfl))) (fun _ _ _ _ _ => pts_nil) (fun _ _ _ _ _ => (pe_op op_addA (pv 5) (pe_tup (pa_cons (pv 7) pa_nil)))))))))) (pss_one (ps_set (i := 2) nd rfl (Or.inl rfl) (pv 4)))))) (pss_one (ps_ret (pv 2))))), ?_⟩
  exact def_ok (N := N__law_e_lots) ((rs_seq (rs_asg (rf_fr (ro_lst (ra_cons (rf_tup ra_nil) ra_nil)))) (rs_seq (rs_for (ri_range1 (ra_cons rf_var ra_nil)) rg_name (rs_seq (rs_asg (rf_fr (ro_lst ra_nil))) (rs_seq (rs_for (ri_seq rf_var) rg_name (rs_seq (rs_asg (rf_if (rt_test (b := true) (rf_op (bi := true) rf_var (rf_tup ra_nil) r2_ne)) (rf_op (bi := true) (rf_op (bi := true) rf_var (rf_neg (bi := true) rf_int) r2_sub2) rf_int r2_add) rf_int)) (rs_asg (rf_op (bi := true) rf_var (rf_fr (ro_lc (vs := [7]) (ri_range2 (ra_cons rf_var (ra_cons rf_var ra_nil))) (rgn_name (by decide)) rt_yes (ro_leaf (rf_op (bi := true) rf_var (rf_tup (ra_cons rf_var ra_nil)) r2_add)))) r2_add)))) (rs_asg rf_var)))) (rs_ret rf_var)))) h
abbrev N__law_e_words : List Str := ["length", "letters", "found", "lap", "longer", "word", "item"]
theorem sc__law_e_words : FnScope N__law_e_words ["length", "letters"] (defScope s__law_e_words) := ⟨rfl, rfl, rfl, by decide +kernel, rfl, by decide +kernel, by decide +kernel⟩
theorem ok__law_e_words {P : Program} {w : World} {K : PySem.W.Frag} {mg : Str → Option Value} {base : Heap} {A : Ad} (T : Txt K mg A) {fd : FuncData} (F : Fun K "_law_e_words" "_law_e_words" s__law_e_words A.f__law_e_words fd) : FnOk P w K mg base CX0 1 A.f__law_e_words fd ["length", "letters"] (spD K A.cl 2 m__law_e_words) := by
  refine F.ok sc__law_e_words (fun vs H Q E h => spD_len h) (fun cdv A0 outer s H vs Q E hr h => ?_)
  have nd := sc__law_e_words.nd
  have hu := hu_of hr
  refine ⟨_, (pss_cons (ps_set (i := 2) nd rfl (Or.inl rfl) (pe_lst (pa_cons (pe_tup pa_nil) pa_nil))) (pss_cons (ps_for PassesOwn.never rfl (pi_range1 rfl T.b_range (pa_cons (pv 0) pa_nil)) (pg_name (i := 3) nd rfl (Or.inl rfl)) (pss_cons (ps_set (i := 4) nd rfl (Or.inl rfl) (pe_lst pa_nil)) (pss_cons (ps_for PassesOwn.never rfl (pi_seq (pv 2)) (pg_name (i := 5) nd rfl (Or.inr rfl)) (pss_one (ps_set (i := 4) nd rfl (Or.inl rfl) (pe_op op_addA (pv 4) (pe_lc (own := [("item", 6)]) (g := (gName 6)) (tt := tYes) (te := (tOp (rAddA K) (tVar 5) (tTup (tCons (tVar 6) tNil)))) rfl nd (pi_range1 rfl T.b_range (pa_cons (pv 1) pa_nil)) (blkOk_by (N := N__law_e_words) (sc := defScope s__law_e_words) (by decide +kernel)) (fun _ _ _ _ _ => (pg_name (i := 6) nd rfl (by first | exact Or.inl rfl | exact Or.inr rfl))) (fun _ _ _ _ _ => pts_nil) (fun _ _ _ _ _ => (pe_op op_addA (pv 5) (pe_tup (pa_cons (pv 6) pa_nil))))))))) (pss_one (ps_set (i := 2) nd rfl (Or.inl rfl) (pv 4)))))) (pss_one (ps_ret (pv 2))))), ?_⟩
  exact def_ok (N := N__law_e_words) ((rs_seq (rs_asg (rf_fr (ro_lst (ra_cons (rf_tup ra_nil) ra_nil)))) (rs_seq (rs_for (ri_range1 (ra_cons rf_var ra_nil)) rg_name (rs_seq (rs_asg (rf_fr (ro_lst ra_nil))) (rs_seq (rs_for (ri_seq rf_var) rg_name (rs_asg (rf_op (bi := true) rf_var (rf_fr (ro_lc (vs := [6]) (ri_range1 (ra_cons rf_var ra_nil)) (rgn_name (by decide)) rt_yes (ro_leaf (rf_op (bi := true) rf_var (rf_tup (ra_cons rf_var ra_nil)) r2_add)))) r2_add))) (rs_asg rf_var)))) (rs_ret rf_var)))) h
abbrev N__law_e_apart : List Str := ["one", "other", "a", "b"]
theorem sc__law_e_apart : FnScope N__law_e_apart ["one", "other"] (defScope s__law_e_apart) := ⟨rfl, rfl, rfl, by decide +kernel, rfl, by decide +kernel, by decide +kernel⟩
theorem ok__law_e_apart {P : Program} {w : World} {K : PySem.W.Frag} {mg : Str → Option Value} {base : Heap} {A : Ad} (T : Txt K mg A) {fd : FuncData} (F : Fun K "_law_e_apart" "_law_e_apart" s__law_e_apart A.f__law_e_apart fd) : FnOk P w K mg base CX0 1 A.f__law_e_apart fd ["one", "other"] (spD K A.cl 2 m__law_e_apart) := by
  refine F.ok sc__law_e_apart (fun vs H Q E h => spD_len h) (fun cdv A0 outer s H vs Q E hr h => ?_)
  have nd := sc__law_e_apart.nd
  have hu := hu_of hr
  refine ⟨_, (pss_one (ps_ret (pe_callB call_lenA (by rfl) T.b_len (by decide +kernel) (pa_cons (pe_lc (own := [("a", 2), ("b", 3)]) (g := (gTup K 2 (gCons (gName 2) (gCons (gName 3) gNil)))) (tt := (tTest (tOp (rNeD K) (tVar 2) (tVar 3)))) (te := (tC (.int 1))) rfl nd (RZ.pi_zipA rfl T.b_zip (pa_cons (pv 0) (pa_cons (pv 1) pa_nil))) (blkOk_by (N := N__law_e_apart) (sc := defScope s__law_e_apart) (by decide +kernel)) (fun _ _ _ _ _ => (pg_tup rfl (pgs_cons (pg_name (i := 2) nd rfl (by first | exact Or.inl rfl | exact Or.inr rfl)) (pgs_cons (pg_name (i := 3) nd rfl (by first | exact Or.inl rfl | exact Or.inr rfl)) pgs_nil)))) (fun _ _ _ _ _ => (pts_one (pt_cmpR (op_neD hr.units) (pv 2) (pv 3) (nomark _)))) (fun _ _ _ _ _ => pe_int)) pa_nil)))), ?_⟩
  exact def_ok (N := N__law_e_apart) ((rs_ret (rf_cb (bi := true) (ra_cons (rf_fr (ro_lc (vs := [2, 3]) (ri_zip (ra_cons rf_var (ra_cons rf_var ra_nil))) (rgn_tup (rgns_cons (rgn_name (by decide)) (rgns_cons (rgn_name (by decide)) rgns_nil))) (rt_test (b := true) (rf_op (bi := true) rf_var rf_var r2_ne)) (ro_leaf rf_int))) ra_nil) rc_len))) h
abbrev N__law_e_missing : List Str := ["one", "other", "item"]
theorem sc__law_e_missing : FnScope N__law_e_missing ["one", "other"] (defScope s__law_e_missing) := ⟨rfl, rfl, rfl, by decide +kernel, rfl, by decide +kernel, by decide +kernel⟩
theorem ok__law_e_missing {P : Program} {w : World} {K : PySem.W.Frag} {mg : Str → Option Value} {base : Heap} {A : Ad} (T : Txt K mg A) {fd : FuncData} (F : Fun K "_law_e_missing" "_law_e_missing" s__law_e_missing A.f__law_e_missing fd) : FnOk P w K mg base CX0 1 A.f__law_e_missing fd ["one", "other"] (spD K A.cl 2 m__law_e_missing) := by
  refine F.ok sc__law_e_missing (fun vs H Q E h => spD_len h) (fun cdv A0 outer s H vs Q E hr h => ?_)
  have nd := sc__law_e_missing.nd
  have hu := hu_of hr
  have hu65 : (A0.deeper (PyProof.Rows.envOfC "_law_e_missing" (defScope s__law_e_missing) s.heap.objs.size A.f__law_e_missing cdv)).units + 65 < cLine := by have := hr.un; omega
  refine ⟨_, (pss_one (ps_ret (pe_callB call_lenA (by rfl) T.b_len (by decide +kernel) (pa_cons (pe_lc (own := [("item", 2)]) (g := (gName 2)) (tt := (tTest (tOp (rInA K true) (tVar 2) (tVar 1)))) (te := (tVar 2)) rfl nd (pi_seq (pv 0)) (blkOk_by (N := N__law_e_missing) (sc := defScope s__law_e_missing) (by decide +kernel)) (fun _ _ _ _ _ => (pg_name (i := 2) nd rfl (by first | exact Or.inl rfl | exact Or.inr rfl))) (fun _ _ _ _ _ => (pts_one (pt_cmpR (op_notInA hu65) (pv 2) (pv 1) (by rfl)))) (fun _ _ _ _ _ => (pv 2))) pa_nil)))), ?_⟩
  exact def_ok (N := N__law_e_missing) ((rs_ret (rf_cb (bi := true) (ra_cons (rf_fr (ro_lc (vs := [2]) (ri_seq rf_var) (rgn_name (by decide)) (rt_test (b := true) (rf_op (bi := true) rf_var rf_var r2_notIn)) (ro_leaf rf_var))) ra_nil) rc_len))) h
abbrev N__law_e_pairs : List Str := ["n", "found", "x", "y"]
theorem sc__law_e_pairs : FnScope N__law_e_pairs ["n"] (defScope s__law_e_pairs) := ⟨rfl, rfl, rfl, by decide +kernel, rfl, by decide +kernel, by decide +kernel⟩
theorem ok__law_e_pairs {P : Program} {w : World} {K : PySem.W.Frag} {mg : Str → Option Value} {base : Heap} {A : Ad} (T : Txt K mg A) {fd : FuncData} (F : Fun K "_law_e_pairs" "_law_e_pairs" s__law_e_pairs A.f__law_e_pairs fd) : FnOk P w K mg base CX0 1 A.f__law_e_pairs fd ["n"] (spD K A.cl 1 m__law_e_pairs) := by
  refine F.ok sc__law_e_pairs (fun vs H Q E h => spD_len h) (fun cdv A0 outer s H vs Q E hr h => ?_)
  have nd := sc__law_e_pairs.nd
  have hu := hu_of hr
  refine ⟨_, (pss_cons (ps_set (i := 1) nd rfl (Or.inl rfl) (pe_lst pa_nil)) (pss_cons (ps_for PassesOwn.never rfl (pi_range1 rfl T.b_range (pa_cons (pv 0) pa_nil)) (pg_name (i := 2) nd rfl (Or.inr rfl)) (pss_one (ps_set (i := 1) nd rfl (Or.inl rfl) (pe_op op_addA (pv 1) (pe_lc (own := [("y", 3)]) (g := (gName 3)) (tt := tYes) (te := (tTup (tCons (tVar 2) (tCons (tVar 3) tNil)))) rfl nd (pi_range1 rfl T.b_range (pa_cons (pv 2) pa_nil)) (blkOk_by (N := N__law_e_pairs) (sc := defScope s__law_e_pairs) (by decide +kernel)) (fun _ _ _ _ _ => (pg_name (i := 3) nd rfl (by first | exact Or.inl rfl | exact Or.inr rfl))) (fun _ _ _ _ _ => pts_nil) (fun _ _ _ _ _ => (pe_tup (pa_cons (pv 2) (pa_cons (pv 3) pa_nil))))))))) (pss_one (ps_ret (pv 1))))), ?_⟩
  exact def_ok (N := N__law_e_pairs) ((rs_seq (rs_asg (rf_fr (ro_lst ra_nil))) (rs_seq (rs_for (ri_range1 (ra_cons rf_var ra_nil)) rg_name (rs_asg (rf_op (bi := true) rf_var (rf_fr (ro_lc (vs := [3]) (ri_range1 (ra_cons rf_var ra_nil)) (rgn_name (by decide)) rt_yes (ro_leaf (rf_tup (ra_cons rf_var (ra_cons rf_var ra_nil)))))) r2_add))) (rs_ret rf_var)))) h
abbrev N__law_e_some_web : List Str := ["pen", "way", "things", "ties", "size", "lots", "n", "order", "pair", "left", "x", "y", "tie"]
theorem sc__law_e_some_web : FnScope N__law_e_some_web ["pen"] (defScope s__law_e_some_web) := ⟨rfl, rfl, rfl, by decide +kernel, rfl, by decide +kernel, by decide +kernel⟩
theorem ok__law_e_some_web {P : Program} {w : World} {K : PySem.W.Frag} {mg : Str → Option Value} {base : Heap} {A : Ad} (T : Txt K mg A) {fd : FuncData} (F : Fun K "_law_e_some_web" "_law_e_some_web" s__law_e_some_web A.f__law_e_some_web fd) {fd__law_draw : FuncData} (G__law_draw : FnOk P w K mg base CX0 1 A.f__law_draw fd__law_draw ["pen", "many"] (spDraw K)) (B__law_draw : Binds K fd__law_draw ["pen", "many"] []) {fd__law_e_lots : FuncData} (G__law_e_lots : FnOk P w K mg base CX0 1 A.f__law_e_lots fd__law_e_lots ["many", "size"] (spD K A.cl 2 m__law_e_lots)) (B__law_e_lots : Binds K fd__law_e_lots ["many", "size"] []) {fd__law_shuffled : FuncData} (G__law_shuffled : FnOk P w K mg base CX0 2 A.f__law_shuffled fd__law_shuffled ["pen", "some"] (spD K A.cl 2 m__law_shuffled)) (B__law_shuffled : Binds K fd__law_shuffled ["pen", "some"] []) {fd__law_pick : FuncData} (G__law_pick : FnOk P w K mg base CX0 2 A.f__law_pick fd__law_pick ["pen", "some"] (spD K A.cl 2 m__law_pick)) (B__law_pick : Binds K fd__law_pick ["pen", "some"] []) {fd__law_e_words : FuncData} (G__law_e_words : FnOk P w K mg base CX0 1 A.f__law_e_words fd__law_e_words ["length", "letters"] (spD K A.cl 2 m__law_e_words)) (B__law_e_words : Binds K fd__law_e_words ["length", "letters"] []) {fd__law_e_pairs : FuncData} (G__law_e_pairs : FnOk P w K mg base CX0 1 A.f__law_e_pairs fd__law_e_pairs ["n"] (spD K A.cl 1 m__law_e_pairs)) (B__law_e_pairs : Binds K fd__law_e_pairs ["n"] []) {fd__law_e_missing : FuncData} (G__law_e_missing : FnOk P w K mg base CX0 1 A.f__law_e_missing fd__law_e_missing ["one", "other"] (spD K A.cl 2 m__law_e_missing)) (B__law_e_missing : Binds K fd__law_e_missing ["one", "other"] []) {fd__law_e_apart : FuncData} (G__law_e_apart : FnOk P w K mg base CX0 1 A.f__law_e_apart fd__law_e_apart ["one", "other"] (spD K A.cl 2 m__law_e_apart)) (B__law_e_apart : Binds K fd__law_e_apart ["one", "other"] []) : FnOk P w K mg base CX0 3 A.f__law_e_some_web fd ["pen"] (spD K A.cl 1 m__law_e_some_web) := by
  refine F.ok sc__law_e_some_web (fun vs H Q E h => spD_len h) (fun cdv A0 outer s H vs Q E hr h => ?_)
  have nd := sc__law_e_some_web.nd
  have hu := hu_of hr
  have hu65 : (A0.deeper (PyProof.Rows.envOfC "_law_e_some_web" (defScope s__law_e_some_web) s.heap.objs.size A.f__law_e_some_web cdv)).units + 65 < cLine := by have := hr.un; omega
  refine ⟨_, (pss_cons (ps_set (i := 1) nd rfl (Or.inl rfl) (pe_call G__law_draw (hr.mono (by omega)) rfl T.g__law_draw T.k__law_draw B__law_draw .nil pass0 (pa_cons (pv 0) (pa_cons pe_int pa_nil)))) (pss_cons (ps_if (pt_cmpR (op_eqD hr.units) (pv 1) pe_int (nomark _)) (pss_cons (ps_set (i := 2) nd rfl (Or.inr rfl) (pe_call G__law_e_lots (hr.mono (by omega)) rfl T.g__law_e_lots T.k__law_e_lots B__law_e_lots .nil pass0 (pa_cons (pe_call G__law_pick (hr.mono (by omega)) rfl T.g__law_pick T.k__law_pick B__law_pick .nil pass0 (pa_cons (pv 0) (pa_cons (pe_lst (pa_cons pe_int (pa_cons pe_int (pa_cons pe_int pa_nil)))) pa_nil))) (pa_cons pe_int pa_nil)))) (pss_one (ps_setLc (i := 3) (own := [("x", 10), ("y", 11)]) (g := (gTup K 2 (gCons (gName 10) (gCons (gName 11) gNil)))) (tt := (tTest (tOp (rEqD K) (tCall (spD K A.cl 2 m__law_e_missing) [] E0 (tCons (tOp (rSub K) (tVar 2) (tVar 10)) (tCons (tOp (rSub K) (tVar 2) (tVar 11)) tNil))) (tC (.int 1))))) (te := (tTup (tCons (tVar 10) (tCons (tVar 11) tNil)))) rfl nd rfl rfl (sw_true rfl rfl rfl (by decide +kernel)) (pi_seq (pe_call G__law_e_pairs (hr.mono (by omega)) rfl T.g__law_e_pairs T.k__law_e_pairs B__law_e_pairs .nil pass0 (pa_cons (pe_callB call_lenA (by rfl) T.b_len (by decide +kernel) (pa_cons (pv 2) pa_nil)) pa_nil))) (blkOk_by (N := N__law_e_some_web) (sc := defScope s__law_e_some_web) (by decide +kernel)) (fun _ _ _ _ _ => (pg_tup rfl (pgs_cons (pg_name (i := 10) nd rfl (by first | exact Or.inl rfl | exact Or.inr rfl)) (pgs_cons (pg_name (i := 11) nd rfl (by first | exact Or.inl rfl | exact Or.inr rfl)) pgs_nil)))) (fun _ _ _ _ _ => (pts_one (pt_cmpR (op_eqD hr.units) (pe_call G__law_e_missing (hr.mono (by omega)) rfl T.g__law_e_missing T.k__law_e_missing B__law_e_missing .nil pass0 (pa_cons (pe_ix (ix_sub hu) (pv 2) (pv 10) (fun _ _ => rfl)) (pa_cons (pe_ix (ix_sub hu) (pv 2) (pv 11) (fun _ _ => rfl)) pa_nil))) pe_int (nomark _)))) (fun _ _ _ _ _ => (pe_tup (pa_cons (pv 10) (pa_cons (pv 11) pa_nil))))))) (pss_one (ps_if (pt_cmpR (op_eqD hr.units) (pv 1) pe_int (nomark _)) (pss_cons (ps_set (i := 2) nd rfl (Or.inr rfl) (pe_call G__law_e_words (hr.mono (by omega)) rfl T.g__law_e_words T.k__law_e_words B__law_e_words .nil pass0 (pa_cons pe_int (pa_cons (pe_call G__law_pick (hr.mono (by omega)) rfl T.g__law_pick T.k__law_pick B__law_pick .nil pass0 (pa_cons (pv 0) (pa_cons (pe_lst (pa_cons pe_int (pa_cons pe_int pa_nil))) pa_nil))) pa_nil)))) (pss_one (ps_setLc (i := 3) (own := [("x", 10), ("y", 11)]) (g := (gTup K 2 (gCons (gName 10) (gCons (gName 11) gNil)))) (tt := (tTest (tOp (rEqD K) (tCall (spD K A.cl 2 m__law_e_apart) [] E0 (tCons (tOp (rSub K) (tVar 2) (tVar 10)) (tCons (tOp (rSub K) (tVar 2) (tVar 11)) tNil))) (tC (.int 1))))) (te := (tTup (tCons (tVar 10) (tCons (tVar 11) tNil)))) rfl nd rfl rfl (sw_true rfl rfl rfl (by decide +kernel)) (pi_seq (pe_call G__law_e_pairs (hr.mono (by omega)) rfl T.g__law_e_pairs T.k__law_e_pairs B__law_e_pairs .nil pass0 (pa_cons (pe_callB call_lenA (by rfl) T.b_len (by decide +kernel) (pa_cons (pv 2) pa_nil)) pa_nil))) (blkOk_by (N := N__law_e_some_web) (sc := defScope s__law_e_some_web) (by decide +kernel)) (fun _ _ _ _ _ => (pg_tup rfl (pgs_cons (pg_name (i := 10) nd rfl (by first | exact Or.inl rfl | exact Or.inr rfl)) (pgs_cons (pg_name (i := 11) nd rfl (by first | exact Or.inl rfl | exact Or.inr rfl)) pgs_nil)))) (fun _ _ _ _ _ => (pts_one (pt_cmpR (op_eqD hr.units) (pe_call G__law_e_apart (hr.mono (by omega)) rfl T.g__law_e_apart T.k__law_e_apart B__law_e_apart .nil pass0 (pa_cons (pe_ix (ix_sub hu) (pv 2) (pv 10) (fun _ _ => rfl)) (pa_cons (pe_ix (ix_sub hu) (pv 2) (pv 11) (fun _ _ => rfl)) pa_nil))) pe_int (nomark _)))) (fun _ _ _ _ _ => (pe_tup (pa_cons (pv 10) (pa_cons (pv 11) pa_nil))))))) (pss_one (ps_if (pt_cmpR (op_eqD hr.units) (pv 1) pe_int (nomark _)) (pss_cons (ps_set (i := 2) nd rfl (Or.inr rfl) (pe_listRg rfl (by rfl) T.b_list (prg_1 (by rfl) T.b_range pe_int))) (pss_one (ps_setLc (i := 3) (own := [("x", 10)]) (g := (gName 10)) (tt := tYes) (te := (tTup (tCons (tVar 10) (tCons (tOp rModE (tCB rIntE (tCons (tOp (rAddA K) (tVar 10) (tC (.int 1))) tNil)) (tC (.int 5))) tNil)))) rfl nd rfl rfl (sw_true rfl rfl rfl (by decide +kernel)) (pi_seq (pv 2)) (blkOk_by (N := N__law_e_some_web) (sc := defScope s__law_e_some_web) (by decide +kernel)) (fun _ _ _ _ _ => (pg_name (i := 10) nd rfl (by first | exact Or.inl rfl | exact Or.inr rfl))) (fun _ _ _ _ _ => pts_nil) (fun _ _ _ _ _ => (pe_tup (pa_cons (pv 10) (pa_cons (pe_op op_mod (pe_callTy call_int1 (by rfl) T.b_int (by decide +kernel) (pa_cons (pe_op op_addA (pv 10) pe_int) pa_nil)) pe_int) pa_nil))))))) (pss_one (ps_if (pt_cmpR (op_eqD hr.units) (pv 1) pe_int (nomark _)) (pss_cons (ps_set (i := 2) nd rfl (Or.inr rfl) (pe_call G__law_e_lots (hr.mono (by omega)) rfl T.g__law_e_lots T.k__law_e_lots B__law_e_lots .nil pass0 (pa_cons pe_int (pa_cons pe_int pa_nil)))) (pss_one (ps_setLc (i := 3) (own := [("x", 10), ("y", 11)]) (g := (gTup K 2 (gCons (gName 10) (gCons (gName 11) gNil)))) (tt := (tTest (tOp (rEqD K) (tCall (spD K A.cl 2 m__law_e_missing) [] E0 (tCons (tOp (rSub K) (tVar 2) (tVar 10)) (tCons (tOp (rSub K) (tVar 2) (tVar 11)) tNil))) (tC (.int 2))))) (te := (tTup (tCons (tVar 10) (tCons (tVar 11) tNil)))) rfl nd rfl rfl (sw_true rfl rfl rfl (by decide +kernel)) (pi_seq (pe_call G__law_e_pairs (hr.mono (by omega)) rfl T.g__law_e_pairs T.k__law_e_pairs B__law_e_pairs .nil pass0 (pa_cons pe_int pa_nil))) (blkOk_by (N := N__law_e_some_web) (sc := defScope s__law_e_some_web) (by decide +kernel)) (fun _ _ _ _ _ => (pg_tup rfl (pgs_cons (pg_name (i := 10) nd rfl (by first | exact Or.inl rfl | exact Or.inr rfl)) (pgs_cons (pg_name (i := 11) nd rfl (by first | exact Or.inl rfl | exact Or.inr rfl)) pgs_nil)))) (fun _ _ _ _ _ => (pts_one (pt_cmpR (op_eqD hr.units) (pe_call G__law_e_missing (hr.mono (by omega)) rfl T.g__law_e_missing T.k__law_e_missing B__law_e_missing .nil pass0 (pa_cons (pe_ix (ix_sub hu) (pv 2) (pv 10) (fun _ _ => rfl)) (pa_cons (pe_ix (ix_sub hu) (pv 2) (pv 11) (fun _ _ => rfl)) pa_nil))) pe_int (nomark _)))) (fun _ _ _ _ _ => (pe_tup (pa_cons (pv 10) (pa_cons (pv 11) pa_nil))))))) (pss_one (ps_if (pt_cmpR (op_eqD hr.units) (pv 1) pe_int (nomark _)) (pss_cons (ps_asg (pe_call G__law_pick (hr.mono (by omega)) rfl T.g__law_pick T.k__law_pick B__law_pick .nil pass0 (pa_cons (pv 0) (pa_cons (pe_lst (pa_cons (pe_tup (pa_cons pe_int (pa_cons pe_int pa_nil))) (pa_cons (pe_tup (pa_cons pe_int (pa_cons pe_int pa_nil))) (pa_cons (pe_tup (pa_cons pe_int (pa_cons pe_int pa_nil))) (pa_cons (pe_tup (pa_cons pe_int (pa_cons pe_int pa_nil))) (pa_cons (pe_tup (pa_cons pe_int (pa_cons pe_int pa_nil))) (pa_cons (pe_tup (pa_cons pe_int (pa_cons pe_int pa_nil))) (pa_cons (pe_tup (pa_cons pe_int (pa_cons pe_int pa_nil))) pa_nil)))))))) pa_nil))) (pg_tup rfl (pgs_cons (pg_name (i := 4) nd rfl (Or.inr rfl)) (pgs_cons (pg_name (i := 5) nd rfl (Or.inr rfl)) pgs_nil)))) (pss_cons (ps_set (i := 2) nd rfl (Or.inr rfl) (pe_listRg rfl (by rfl) T.b_list (prg_1 (by rfl) T.b_range (pe_op op_mulA (pv 4) (pv 5))))) (pss_one (ps_setLc (i := 3) (own := [("x", 10), ("y", 11)]) (g := (gTup K 2 (gCons (gName 10) (gCons (gName 11) gNil)))) (tt := (tTest (tOp (rEqD K) (tOp (rEqD K) (tOp rDivE (tVar 10) (tVar 4)) (tOp rDivE (tVar 11) (tVar 4))) (tOp rLtE (tVar 5) (tC (.int 3)))))) (te := (tTup (tCons (tVar 10) (tCons (tVar 11) tNil)))) rfl nd rfl rfl (sw_true rfl rfl rfl (by decide +kernel)) (pi_seq (pe_call G__law_e_pairs (hr.mono (by omega)) rfl T.g__law_e_pairs T.k__law_e_pairs B__law_e_pairs .nil pass0 (pa_cons (pe_op op_mulA (pv 4) (pv 5)) pa_nil))) (blkOk_by (N := N__law_e_some_web) (sc := defScope s__law_e_some_web) (by decide +kernel)) (fun _ _ _ _ _ => (pg_tup rfl (pgs_cons (pg_name (i := 10) nd rfl (by first | exact Or.inl rfl | exact Or.inr rfl)) (pgs_cons (pg_name (i := 11) nd rfl (by first | exact Or.inl rfl | exact Or.inr rfl)) pgs_nil)))) (fun _ _ _ _ _ => (pts_one (pt_cmpR (op_eqD hr.units) (pe_cmpR (op_eqD hr.units) (pe_op op_fdivW (pv 10) (pv 4)) (pe_op op_fdivW (pv 11) (pv 4)) (nomark _)) (pe_cmpR op_lt (pv 5) pe_int (nomark _)) (nomark _)))) (fun _ _ _ _ _ => (pe_tup (pa_cons (pv 10) (pa_cons (pv 11) pa_nil)))))))) (pss_cons (ps_set (i := 2) nd rfl (Or.inr rfl) (pe_listRg rfl (by rfl) T.b_list (prg_1 (by rfl) T.b_range (pe_op op_addA pe_int (pe_call G__law_draw (hr.mono (by omega)) rfl T.g__law_draw T.k__law_draw B__law_draw .nil pass0 (pa_cons (pv 0) (pa_cons pe_int pa_nil))))))) (pss_one (ps_setLc (i := 3) (own := [("x", 10), ("y", 11)]) (g := (gTup K 2 (gCons (gName 10) (gCons (gName 11) gNil)))) (tt := (tTest (tOp (rEqD K) (tCall (spDraw K) [] E0 (tCons (tVar 0) (tCons (tC (.int 2)) tNil))) (tC (.int 0))))) (te := (tTup (tCons (tVar 10) (tCons (tVar 11) tNil)))) rfl nd rfl rfl (sw_true rfl rfl rfl (by decide +kernel)) (pi_seq (pe_call G__law_e_pairs (hr.mono (by omega)) rfl T.g__law_e_pairs T.k__law_e_pairs B__law_e_pairs .nil pass0 (pa_cons (pe_callB call_lenA (by rfl) T.b_len (by decide +kernel) (pa_cons (pv 2) pa_nil)) pa_nil))) (blkOk_by (N := N__law_e_some_web) (sc := defScope s__law_e_some_web) (by decide +kernel)) (fun _ _ _ _ _ => (pg_tup rfl (pgs_cons (pg_name (i := 10) nd rfl (by first | exact Or.inl rfl | exact Or.inr rfl)) (pgs_cons (pg_name (i := 11) nd rfl (by first | exact Or.inl rfl | exact Or.inr rfl)) pgs_nil)))) (fun _ _ _ _ _ => (pts_one (pt_cmpR (op_eqD hr.units) (pe_call G__law_draw (hr.mono (by omega)) rfl T.g__law_draw T.k__law_draw B__law_draw .nil pass0 (pa_cons (pv 0) (pa_cons pe_int pa_nil))) pe_int (nomark _)))) (fun _ _ _ _ _ => (pe_tup (pa_cons (pv 10) (pa_cons (pv 11) pa_nil)))))))))))))))) (pss_cons (ps_asg (pe_tup (pa_cons (pe_callB call_lenA (by rfl) T.b_len (by decide +kernel) (pa_cons (pv 2) pa_nil)) (pa_cons (pe_call G__law_shuffled (hr.mono (by omega)) rfl T.g__law_shuffled T.k__law_shuffled B__law_shuffled .nil pass0 (pa_cons (pv 0) (pa_cons (pe_listRg rfl (by rfl) T.b_list (prg_1 (by rfl) T.b_range (pe_callB call_lenA (by rfl) T.b_len (by decide +kernel) (pa_cons (pv 2) pa_nil)))) pa_nil))) pa_nil))) (pg_tup rfl (pgs_cons (pg_name (i := 6) nd rfl (Or.inl rfl)) (pgs_cons (pg_name (i := 7) nd rfl (Or.inr rfl)) pgs_nil)))) (pss_cons (ps_setLc (i := 3) (own := [("x", 10), ("y", 11)]) (g := (gTup K 2 (gCons (gName 10) (gCons (gName 11) gNil)))) (tt := tYes) (te := (tTup (tCons (tOp (rSub K) (tVar 7) (tVar 10)) (tCons (tOp (rSub K) (tVar 7) (tVar 11)) tNil)))) rfl nd rfl rfl (sw_true rfl rfl rfl (by decide +kernel)) (pi_seq (pv 3)) (blkOk_by (N := N__law_e_some_web) (sc := defScope s__law_e_some_web) (by decide +kernel)) (fun _ _ _ _ _ => (pg_tup rfl (pgs_cons (pg_name (i := 10) nd rfl (by first | exact Or.inl rfl | exact Or.inr rfl)) (pgs_cons (pg_name (i := 11) nd rfl (by first | exact Or.inl rfl | exact Or.inr rfl)) pgs_nil)))) (fun _ _ _ _ _ => pts_nil) (fun _ _ _ _ _ => (pe_tup (pa_cons (pe_ix (ix_sub hu) (pv 7) (pv 10) (fun _ _ => rfl)) (pa_cons (pe_ix (ix_sub hu) (pv 7) (pv 11) (fun _ _ => rfl)) pa_nil))))) (pss_cons (ps_if (PW.pt (pw_and (pt_cmpR (op_eqD hr.units) (pe_call G__law_draw (hr.mono (by omega)) rfl T.g__law_draw T.k__law_draw B__law_draw .nil pass0 (pa_cons (pv 0) (pa_cons pe_int pa_nil))) pe_int (nomark _)) (pw_and1 (pt_cmpR op_gt (pv 6) pe_int (nomark _))))) (pss_cons (ps_set (i := 8) nd rfl (Or.inr rfl) (pe_tupleOf (by rfl) T.b_tuple (pe_slice sl_q (pe_call G__law_shuffled (hr.mono (by omega)) rfl T.g__law_shuffled T.k__law_shuffled B__law_shuffled .nil pass0 (pa_cons (pv 0) (pa_cons (pe_listRg rfl (by rfl) T.b_list (prg_1 (by rfl) T.b_range (pv 6))) pa_nil))) po_none (po_some pe_int)))) (pss_cons (ps_setLc (i := 9) (own := [("tie", 12)]) (g := (gName 12)) (tt := (tTest (tOp (rInA K true) (tVar 12) (tLst (tCons (tVar 8) (tCons (tBack K (tVar 8)) tNil)))))) (te := (tVar 12)) rfl nd rfl rfl (sw_true rfl rfl rfl (by decide +kernel)) (pi_seq (pv 3)) (blkOk_by (N := N__law_e_some_web) (sc := defScope s__law_e_some_web) (by decide +kernel)) (fun _ _ _ _ _ => (pg_name (i := 12) nd rfl (by first | exact Or.inl rfl | exact Or.inr rfl))) (fun _ _ _ _ _ => (pts_one (pt_cmpR (op_notInA hu65) (pv 12) (pe_lst (pa_cons (pv 8) (pa_cons (pe_back (pv 8)) pa_nil))) (by rfl)))) (fun _ _ _ _ _ => (pv 12))) (pss_one (ps_set (i := 3) nd rfl (Or.inl rfl) (pe_ifExp (pt_cmpR op_lt (pe_callB call_lenA (by rfl) T.b_len (by decide +kernel) (pa_cons (pv 9) pa_nil)) (pe_callB call_lenA (by rfl) T.b_len (by decide +kernel) (pa_cons (pv 3) pa_nil)) (nomark _)) (pv 9) (pe_op op_addA (pv 3) (pe_lst (pa_cons (pv 8) pa_nil)))))))) pss_nil) (pss_one (ps_ret (pe_tup (pa_cons (pv 6) (pa_cons (pe_call G__law_shuffled (hr.mono (by omega)) rfl T.g__law_shuffled T.k__law_shuffled B__law_shuffled .nil pass0 (pa_cons (pv 0) (pa_cons (pv 3) pa_nil))) pa_nil)))))))))), ?_⟩
  exact def_ok (N := N__law_e_some_web) ((rs_seq (rs_asg (rf_draw (ra_cons rf_var (ra_cons rf_int ra_nil)))) (rs_seq (rs_if (rt_test (b := true) (rf_op (bi := true) rf_var rf_int r2_eq)) (rs_seq (rs_asg (rf_def (n := 2) (m := m__law_e_lots) (ra_cons (rf_def (n := 2) (m := m__law_pick) (ra_cons rf_var (ra_cons (rf_fr (ro_lst (ra_cons rf_int (ra_cons rf_int (ra_cons rf_int ra_nil))))) ra_nil))) (ra_cons rf_int ra_nil)))) (rs_asg (rf_fr (ro_lc (vs := [10, 11]) (ri_seq (rf_def (n := 1) (m := m__law_e_pairs) (ra_cons (rf_cb (bi := true) (ra_cons rf_var ra_nil) rc_len) ra_nil))) (rgn_tup (rgns_cons (rgn_name (by decide)) (rgns_cons (rgn_name (by decide)) rgns_nil))) (rt_test (b := true) (rf_op (bi := true) (rf_def (n := 2) (m := m__law_e_missing) (ra_cons (rf_op (bi := true) rf_var rf_var r2_sub2) (ra_cons (rf_op (bi := true) rf_var rf_var r2_sub2) ra_nil))) rf_int r2_eq)) (ro_leaf (rf_tup (ra_cons rf_var (ra_cons rf_var ra_nil)))))))) (rs_if (rt_test (b := true) (rf_op (bi := true) rf_var rf_int r2_eq)) (rs_seq (rs_asg (rf_def (n := 2) (m := m__law_e_words) (ra_cons rf_int (ra_cons (rf_def (n := 2) (m := m__law_pick) (ra_cons rf_var (ra_cons (rf_fr (ro_lst (ra_cons rf_int (ra_cons rf_int ra_nil)))) ra_nil))) ra_nil)))) (rs_asg (rf_fr (ro_lc (vs := [10, 11]) (ri_seq (rf_def (n := 1) (m := m__law_e_pairs) (ra_cons (rf_cb (bi := true) (ra_cons rf_var ra_nil) rc_len) ra_nil))) (rgn_tup (rgns_cons (rgn_name (by decide)) (rgns_cons (rgn_name (by decide)) rgns_nil))) (rt_test (b := true) (rf_op (bi := true) (rf_def (n := 2) (m := m__law_e_apart) (ra_cons (rf_op (bi := true) rf_var rf_var r2_sub2) (ra_cons (rf_op (bi := true) rf_var rf_var r2_sub2) ra_nil))) rf_int r2_eq)) (ro_leaf (rf_tup (ra_cons rf_var (ra_cons rf_var ra_nil)))))))) (rs_if (rt_test (b := true) (rf_op (bi := true) rf_var rf_int r2_eq)) (rs_seq (rs_asg (rf_fr (ro_rg1 rf_int))) (rs_asg (rf_fr (ro_lc (vs := [10]) (ri_seq rf_var) (rgn_name (by decide)) rt_yes (ro_leaf (rf_tup (ra_cons rf_var (ra_cons (rf_op (bi := true) (rf_cb (bi := true) (ra_cons (rf_op (bi := true) rf_var rf_int r2_add) ra_nil) rc_int) rf_int r2_mod) ra_nil)))))))) (rs_if (rt_test (b := true) (rf_op (bi := true) rf_var rf_int r2_eq)) (rs_seq (rs_asg (rf_def (n := 2) (m := m__law_e_lots) (ra_cons rf_int (ra_cons rf_int ra_nil)))) (rs_asg (rf_fr (ro_lc (vs := [10, 11]) (ri_seq (rf_def (n := 1) (m := m__law_e_pairs) (ra_cons rf_int ra_nil))) (rgn_tup (rgns_cons (rgn_name (by decide)) (rgns_cons (rgn_name (by decide)) rgns_nil))) (rt_test (b := true) (rf_op (bi := true) (rf_def (n := 2) (m := m__law_e_missing) (ra_cons (rf_op (bi := true) rf_var rf_var r2_sub2) (ra_cons (rf_op (bi := true) rf_var rf_var r2_sub2) ra_nil))) rf_int r2_eq)) (ro_leaf (rf_tup (ra_cons rf_var (ra_cons rf_var ra_nil)))))))) (rs_if (rt_test (b := true) (rf_op (bi := true) rf_var rf_int r2_eq)) (rs_seq (rs_asgG (rf_def (n := 2) (m := m__law_pick) (ra_cons rf_var (ra_cons (rf_fr (ro_lst (ra_cons (rf_tup (ra_cons rf_int (ra_cons rf_int ra_nil))) (ra_cons (rf_tup (ra_cons rf_int (ra_cons rf_int ra_nil))) (ra_cons (rf_tup (ra_cons rf_int (ra_cons rf_int ra_nil))) (ra_cons (rf_tup (ra_cons rf_int (ra_cons rf_int ra_nil))) (ra_cons (rf_tup (ra_cons rf_int (ra_cons rf_int ra_nil))) (ra_cons (rf_tup (ra_cons rf_int (ra_cons rf_int ra_nil))) (ra_cons (rf_tup (ra_cons rf_int (ra_cons rf_int ra_nil))) ra_nil))))))))) ra_nil))) (rg_tup (rgs_cons rg_name (rgs_cons rg_name rgs_nil)))) (rs_seq (rs_asg (rf_fr (ro_rg1 (rf_op (bi := true) rf_var rf_var r2_mul)))) (rs_asg (rf_fr (ro_lc (vs := [10, 11]) (ri_seq (rf_def (n := 1) (m := m__law_e_pairs) (ra_cons (rf_op (bi := true) rf_var rf_var r2_mul) ra_nil))) (rgn_tup (rgns_cons (rgn_name (by decide)) (rgns_cons (rgn_name (by decide)) rgns_nil))) (rt_test (b := true) (rf_op (bi := true) (rf_op (bi := true) (rf_op (bi := true) rf_var rf_var r2_fdiv) (rf_op (bi := true) rf_var rf_var r2_fdiv) r2_eq) (rf_op (bi := true) rf_var rf_int r2_lt) r2_eq)) (ro_leaf (rf_tup (ra_cons rf_var (ra_cons rf_var ra_nil))))))))) (rs_seq (rs_asg (rf_fr (ro_rg1 (rf_op (bi := true) rf_int (rf_draw (ra_cons rf_var (ra_cons rf_int ra_nil))) r2_add)))) (rs_asg (rf_fr (ro_lc (vs := [10, 11]) (ri_seq (rf_def (n := 1) (m := m__law_e_pairs) (ra_cons (rf_cb (bi := true) (ra_cons rf_var ra_nil) rc_len) ra_nil))) (rgn_tup (rgns_cons (rgn_name (by decide)) (rgns_cons (rgn_name (by decide)) rgns_nil))) (rt_test (b := true) (rf_op (bi := true) (rf_draw (ra_cons rf_var (ra_cons rf_int ra_nil))) rf_int r2_eq)) (ro_leaf (rf_tup (ra_cons rf_var (ra_cons rf_var ra_nil))))))))))))) (rs_seq (rs_asgG (rf_tup (ra_cons (rf_cb (bi := true) (ra_cons rf_var ra_nil) rc_len) (ra_cons (rf_def (n := 2) (m := m__law_shuffled) (ra_cons rf_var (ra_cons (rf_fr (ro_rg1 (rf_cb (bi := true) (ra_cons rf_var ra_nil) rc_len))) ra_nil))) ra_nil))) (rg_tup (rgs_cons rg_name (rgs_cons rg_name rgs_nil)))) (rs_seq (rs_asg (rf_fr (ro_lc (vs := [10, 11]) (ri_seq rf_var) (rgn_tup (rgns_cons (rgn_name (by decide)) (rgns_cons (rgn_name (by decide)) rgns_nil))) rt_yes (ro_leaf (rf_tup (ra_cons (rf_op (bi := true) rf_var rf_var r2_sub2) (ra_cons (rf_op (bi := true) rf_var rf_var r2_sub2) ra_nil))))))) (rs_seq (rs_if (rt_and (rt_test (b := true) (rf_op (bi := true) (rf_draw (ra_cons rf_var (ra_cons rf_int ra_nil))) rf_int r2_eq)) (rt_test (b := true) (rf_op (bi := true) rf_var rf_int r2_gt))) (rs_seq (rs_asg (rf_tuple (rf_sl (rf_def (n := 2) (m := m__law_shuffled) (ra_cons rf_var (ra_cons (rf_fr (ro_rg1 rf_var)) ra_nil))) rto_none (rto_some rf_int)))) (rs_seq (rs_asg (rf_fr (ro_lc (vs := [12]) (ri_seq rf_var) (rgn_name (by decide)) (rt_test (b := true) (rf_op (bi := true) rf_var (rf_fr (ro_lst (ra_cons rf_var (ra_cons (rf_back rf_var) ra_nil)))) r2_notIn)) (ro_leaf rf_var)))) (rs_asg (rf_if (rt_test (b := true) (rf_op (bi := true) (rf_cb (bi := true) (ra_cons rf_var ra_nil) rc_len) (rf_cb (bi := true) (ra_cons rf_var ra_nil) rc_len) r2_lt)) rf_var (rf_op (bi := true) rf_var (rf_fr (ro_lst (ra_cons rf_var ra_nil))) r2_add))))) rs_next) (rs_ret (rf_tup (ra_cons rf_var (ra_cons (rf_def (n := 2) (m := m__law_shuffled) (ra_cons rf_var (ra_cons rf_var ra_nil))) ra_nil)))))))))) h
abbrev N__law_e_tied : List Str := ["n", "ties", "x", "rows", "y"]
theorem sc__law_e_tied : FnScope N__law_e_tied ["n", "ties"] (defScope s__law_e_tied) := ⟨rfl, rfl, rfl, by decide +kernel, rfl, by decide +kernel, by decide +kernel⟩
theorem ok__law_e_tied {P : Program} {w : World} {K : PySem.W.Frag} {mg : Str → Option Value} {base : Heap} {A : Ad} (T : Txt K mg A) {fd : FuncData} (F : Fun K "_law_e_tied" "_law_e_tied" s__law_e_tied A.f__law_e_tied fd) : FnOk P w K mg base CX0 1 A.f__law_e_tied fd ["n", "ties"] (spD K A.cl 2 m__law_e_tied) := by
  refine F.ok sc__law_e_tied (fun vs H Q E h => spD_len h) (fun cdv A0 outer s H vs Q E hr h => ?_)
  have nd := sc__law_e_tied.nd
  have hu := hu_of hr
  refine ⟨_, (pss_cons (ps_setLc (i := 3) (own := [("x", 2)]) (g := (gName 2)) (tt := tYes) (te := (tOp (rMulA K) (tLst (tCons (tC (.int 0)) tNil)) (tVar 0))) rfl nd rfl rfl (sw_true rfl rfl rfl (by decide +kernel)) (pi_range1 rfl T.b_range (pa_cons (pv 0) pa_nil)) (blkOk_by (N := N__law_e_tied) (sc := defScope s__law_e_tied) (by decide +kernel)) (fun _ _ _ _ _ => (pg_name (i := 2) nd rfl (by first | exact Or.inl rfl | exact Or.inr rfl))) (fun _ _ _ _ _ => pts_nil) (fun _ _ _ _ _ => (pe_op op_mulA (pe_lst (pa_cons pe_int pa_nil)) (pv 0)))) (pss_cons (ps_for PassesOwn.never rfl (pi_seq (pv 1)) (pg_tup rfl (pgs_cons (pg_name (i := 2) nd rfl (Or.inl rfl)) (pgs_cons (pg_name (i := 4) nd rfl (Or.inl rfl)) pgs_nil))) (pss_one (ps_asg (pe_tup (pa_cons pe_int (pa_cons pe_int pa_nil))) (pg_tup rfl (pgs_cons (pg_sub (pe_ix (ix_sub hu) (pv 3) (pv 2) (fun _ _ => rfl)) (pv 4) (set_any hu)) (pgs_cons (pg_sub (pe_ix (ix_sub hu) (pv 3) (pv 4) (fun _ _ => rfl)) (pv 2) (set_any hu)) pgs_nil)))))) (pss_one (ps_ret (pv 3))))), ?_⟩
  exact def_ok (N := N__law_e_tied) ((rs_seq (rs_own (ro_lc (vs := [2]) (ri_range1 (ra_cons rf_var ra_nil)) (rgn_name (by decide)) rt_yes (ro_mul (ro_lst (ra_cons rf_int ra_nil)) rf_var))) (rs_seq (rs_for (ri_seq rf_var) (rg_tup (rgs_cons rg_name (rgs_cons rg_name rgs_nil))) (rs_asgG (rf_tup (ra_cons rf_int (ra_cons rf_int ra_nil))) (rg_tup (rgs_cons (rg_set (rl_ix rl_var rf_var) rf_var) (rgs_cons (rg_set (rl_ix rl_var rf_var) rf_var) rgs_nil))))) (rs_frz 3 (rs_ret rf_var))))) h
abbrev N__law_e_both : List Str := ["rows", "x", "y", "z"]
theorem sc__law_e_both : FnScope N__law_e_both ["rows", "x", "y"] (defScope s__law_e_both) := ⟨rfl, rfl, rfl, by decide +kernel, rfl, by decide +kernel, by decide +kernel⟩
theorem ok__law_e_both {P : Program} {w : World} {K : PySem.W.Frag} {mg : Str → Option Value} {base : Heap} {A : Ad} (T : Txt K mg A) {fd : FuncData} (F : Fun K "_law_e_both" "_law_e_both" s__law_e_both A.f__law_e_both fd) : FnOk P w K mg base CX0 1 A.f__law_e_both fd ["rows", "x", "y"] (spD K A.cl 3 m__law_e_both) := by
  refine F.ok sc__law_e_both (fun vs H Q E h => spD_len h) (fun cdv A0 outer s H vs Q E hr h => ?_)
  have nd := sc__law_e_both.nd
  have hu := hu_of hr
  refine ⟨_, (pss_one (ps_ret (pe_callB call_lenA (by rfl) T.b_len (by decide +kernel) (pa_cons (pe_lc (own := [("z", 3)]) (g := (gName 3)) (tt := (tAnd (tTest (tOp (rEqD K) (tOp (rSub K) (tOp (rSub K) (tVar 0) (tVar 1)) (tVar 3)) (tC (.int 1)))) (tTest (tOp (rEqD K) (tOp (rSub K) (tOp (rSub K) (tVar 0) (tVar 2)) (tVar 3)) (tC (.int 1)))))) (te := (tVar 3)) rfl nd (pi_range1 rfl T.b_range (pa_cons (pe_callB call_lenA (by rfl) T.b_len (by decide +kernel) (pa_cons (pv 0) pa_nil)) pa_nil)) (blkOk_by (N := N__law_e_both) (sc := defScope s__law_e_both) (by decide +kernel)) (fun _ _ _ _ _ => (pg_name (i := 3) nd rfl (by first | exact Or.inl rfl | exact Or.inr rfl))) (fun _ _ _ _ _ => (pts_one (PW.pt (pw_and (pt_cmpR (op_eqD hr.units) (pe_ix (ix_sub hu) (pe_ix (ix_sub hu) (pv 0) (pv 1) (fun _ _ => rfl)) (pv 3) (fun _ _ => rfl)) pe_int (nomark _)) (pw_and1 (pt_cmpR (op_eqD hr.units) (pe_ix (ix_sub hu) (pe_ix (ix_sub hu) (pv 0) (pv 2) (fun _ _ => rfl)) (pv 3) (fun _ _ => rfl)) pe_int (nomark _))))))) (fun _ _ _ _ _ => (pv 3))) pa_nil)))), ?_⟩
  exact def_ok (N := N__law_e_both) ((rs_ret (rf_cb (bi := true) (ra_cons (rf_fr (ro_lc (vs := [3]) (ri_range1 (ra_cons (rf_cb (bi := true) (ra_cons rf_var ra_nil) rc_len) ra_nil)) (rgn_name (by decide)) (rt_and (rt_test (b := true) (rf_op (bi := true) (rf_op (bi := true) (rf_op (bi := true) rf_var rf_var r2_sub2) rf_var r2_sub2) rf_int r2_eq)) (rt_test (b := true) (rf_op (bi := true) (rf_op (bi := true) (rf_op (bi := true) rf_var rf_var r2_sub2) rf_var r2_sub2) rf_int r2_eq))) (ro_leaf rf_var))) ra_nil) rc_len))) h
abbrev N__law_e_strong : List Str := ["n", "ties", "rows", "found", "x", "y", "numbers"]
theorem sc__law_e_strong : FnScope N__law_e_strong ["n", "ties"] (defScope s__law_e_strong) := ⟨rfl, rfl, rfl, by decide +kernel, rfl, by decide +kernel, by decide +kernel⟩
theorem ok__law_e_strong {P : Program} {w : World} {K : PySem.W.Frag} {mg : Str → Option Value} {base : Heap} {A : Ad} (T : Txt K mg A) {fd : FuncData} (F : Fun K "_law_e_strong" "_law_e_strong" s__law_e_strong A.f__law_e_strong fd) {fd__law_e_tied : FuncData} (G__law_e_tied : FnOk P w K mg base CX0 1 A.f__law_e_tied fd__law_e_tied ["n", "ties"] (spD K A.cl 2 m__law_e_tied)) (B__law_e_tied : Binds K fd__law_e_tied ["n", "ties"] []) {fd__law_e_both : FuncData} (G__law_e_both : FnOk P w K mg base CX0 1 A.f__law_e_both fd__law_e_both ["rows", "x", "y"] (spD K A.cl 3 m__law_e_both)) (B__law_e_both : Binds K fd__law_e_both ["rows", "x", "y"] []) : FnOk P w K mg base CX0 2 A.f__law_e_strong fd ["n", "ties"] (spD K A.cl 2 m__law_e_strong) := by
  refine F.ok sc__law_e_strong (fun vs H Q E h => spD_len h) (fun cdv A0 outer s H vs Q E hr h => ?_)
  have nd := sc__law_e_strong.nd
  have hu := hu_of hr
  refine ⟨_, (pss_cons (ps_par (i := 2) (j := 3) rfl nd rfl rfl (by decide) rfl rfl (pa_cons (pe_call G__law_e_tied (hr.mono (by omega)) rfl T.g__law_e_tied T.k__law_e_tied B__law_e_tied .nil pass0 (pa_cons (pv 0) (pa_cons (pv 1) pa_nil))) (pa_cons (pe_lst (pa_cons pe_dnewK (pa_cons pe_dnewK (pa_cons pe_dnewK pa_nil)))) pa_nil)) (by rfl)) (pss_cons (ps_for PassesOwn.never rfl (pi_range1 rfl T.b_range (pa_cons (pv 0) pa_nil)) (pg_name (i := 4) nd rfl (Or.inl rfl)) (pss_one (ps_for PassesOwn.never rfl (pi_range1 rfl T.b_range (pa_cons (pv 0) pa_nil)) (pg_name (i := 5) nd rfl (Or.inl rfl)) (pss_one (ps_asg pe_bl (pg_sub (pe_ix (ix_sub hu) (pv 3) (pe_ifExp (pt_cmpR (op_eqD hr.units) (pv 4) (pv 5) (nomark _)) pe_int (pe_op op_sub pe_int (pe_ix (ix_sub hu) (pe_ix (ix_sub hu) (pv 2) (pv 4) (fun _ _ => rfl)) (pv 5) (fun _ _ => rfl)))) (fun _ _ => rfl)) (pe_call G__law_e_both (hr.mono (by omega)) rfl T.g__law_e_both T.k__law_e_both B__law_e_both .nil pass0 (pa_cons (pv 2) (pa_cons (pv 4) (pa_cons (pv 5) pa_nil)))) (set_any hu))))))) (pss_cons (ps_if (pt_cmpR op_gt (pe_callB (cr_max rfl) (by rfl) T.b_max (by decide +kernel) (pa_cons (pe_lc (own := [("numbers", 6)]) (g := (gName 6)) (tt := tYes) (te := (tCB (rLenA K) (tCons (tVar 6) tNil))) rfl nd (pi_seq (pv 3)) (blkOk_by (N := N__law_e_strong) (sc := defScope s__law_e_strong) (by decide +kernel)) (fun _ _ _ _ _ => (pg_name (i := 6) nd rfl (by first | exact Or.inl rfl | exact Or.inr rfl))) (fun _ _ _ _ _ => pts_nil) (fun _ _ _ _ _ => (pe_callB call_lenA (by rfl) T.b_len (by decide +kernel) (pa_cons (pv 6) pa_nil)))) pa_nil)) pe_int (nomark _)) (pss_one (ps_ret pe_non)) pss_nil) (pss_one (ps_ret (pe_tupleOf (by rfl) T.b_tuple (pe_lc (own := [("numbers", 6)]) (g := (gName 6)) (tt := tYes) (te := (tIf (tTest (tOp rGtE (tCB (rLenA K) (tCons (tVar 6) tNil)) (tC (.int 0)))) (tOp (rSub K) (tCB (rListA K) (tCons (tVar 6) tNil)) (tC (.int 0))) (tC .non))) rfl nd (pi_seq (pv 3)) (blkOk_by (N := N__law_e_strong) (sc := defScope s__law_e_strong) (by decide +kernel)) (fun _ _ _ _ _ => (pg_name (i := 6) nd rfl (by first | exact Or.inl rfl | exact Or.inr rfl))) (fun _ _ _ _ _ => pts_nil) (fun _ _ _ _ _ => (pe_ifExp (pt_cmpR op_gt (pe_callB call_lenA (by rfl) T.b_len (by decide +kernel) (pa_cons (pv 6) pa_nil)) pe_int (nomark _)) (pe_ix (ix_sub hu) (pe_callTy (call_listA rfl) (by rfl) T.b_list (by decide +kernel) (pa_cons (pv 6) pa_nil)) pe_int (fun _ _ => rfl)) pe_non))))))))), ?_⟩
  exact def_ok (N := N__law_e_strong) ((rs_seq (rs_parO (rao_cons (ro_leaf (rf_def (n := 2) (m := m__law_e_tied) (ra_cons rf_var (ra_cons rf_var ra_nil)))) (rao_cons (ro_lstO (rao_cons ro_dK (rao_cons ro_dK (rao_cons ro_dK rao_nil)))) rao_nil))) (rs_seq (rs_for (ri_range1 (ra_cons rf_var ra_nil)) rg_name (rs_for (ri_range1 (ra_cons rf_var ra_nil)) rg_name (rs_asgG rf_bl (rg_set (rl_ix rl_var (rf_if (rt_test (b := true) (rf_op (bi := true) rf_var rf_var r2_eq)) rf_int (rf_op (bi := true) rf_int (rf_op (bi := true) (rf_op (bi := true) rf_var rf_var r2_sub2) rf_var r2_sub2) r2_sub))) (rf_def (n := 3) (m := m__law_e_both) (ra_cons rf_var (ra_cons rf_var (ra_cons rf_var ra_nil)))))))) (rs_frz 3 (rs_seq (rs_if (rt_test (b := true) (rf_op (bi := true) (rf_cb (bi := true) (ra_cons (rf_fr (ro_lc (vs := [6]) (ri_seq rf_var) (rgn_name (by decide)) rt_yes (ro_leaf (rf_cb (bi := true) (ra_cons rf_var ra_nil) rc_len)))) ra_nil) rc_max) rf_int r2_gt)) (rs_ret rf_non) rs_next) (rs_ret (rf_tuple (rf_fr (ro_lc (vs := [6]) (ri_seq rf_var) (rgn_name (by decide)) rt_yes (ro_leaf (rf_if (rt_test (b := true) (rf_op (bi := true) (rf_cb (bi := true) (ra_cons rf_var ra_nil) rc_len) rf_int r2_gt)) (rf_op (bi := true) (rf_fr (ro_listA (ra_cons rf_var ra_nil))) rf_int r2_sub2) rf_non))))))))))) h
abbrev N__law_e_is_pair : List Str := ["n", "value", "item"]
theorem sc__law_e_is_pair : FnScope N__law_e_is_pair ["n", "value"] (defScope s__law_e_is_pair) := ⟨rfl, rfl, rfl, by decide +kernel, rfl, by decide +kernel, by decide +kernel⟩
theorem ok__law_e_is_pair {P : Program} {w : World} {K : PySem.W.Frag} {mg : Str → Option Value} {base : Heap} {A : Ad} (T : Txt K mg A) {fd : FuncData} (F : Fun K "_law_e_is_pair" "_law_e_is_pair" s__law_e_is_pair A.f__law_e_is_pair fd) : FnOk P w K mg base CX0 1 A.f__law_e_is_pair fd ["n", "value"] (spD K A.cl 2 m__law_e_is_pair) := by
  refine F.ok sc__law_e_is_pair (fun vs H Q E h => spD_len h) (fun cdv A0 outer s H vs Q E hr h => ?_)
  have nd := sc__law_e_is_pair.nd
  have hu := hu_of hr
  refine ⟨_, (pss_cons (ps_if (PW.pt (pw_or (pt_not (pt_val (pe_callB call_isiA (by rfl) T.b_isinstance (by decide +kernel) (pa_cons (pv 1) (pa_cons (pe_bltn (v := .ty "tuple") (u := .type "tuple") (by rfl) T.b_tuple (by decide +kernel) rfl) pa_nil))))) (pw_or1 (pt_cmpR (op_neD hr.units) (pe_callB call_lenA (by rfl) T.b_len (by decide +kernel) (pa_cons (pv 1) pa_nil)) pe_int (nomark _))))) (pss_one (ps_ret pe_bl)) pss_nil) (pss_one (ps_ret (pe_cmpR (op_eqD hr.units) (pe_lc (own := [("item", 2)]) (g := (gName 2)) (tt := (tOr (tNot (tB (tCB (rIsiA K) (tCons (tVar 2) (tCons (tC (.ty "int")) tNil))))) (tOr (tB (tCB (rIsiA K) (tCons (tVar 2) (tCons (tC (.ty "bool")) tNil)))) (tNot (tTest (tChain rLeE rLtE (tC (.int 0)) (tVar 2) (tVar 0))))))) (te := (tC (.int 1))) rfl nd (pi_seq (pv 1)) (blkOk_by (N := N__law_e_is_pair) (sc := defScope s__law_e_is_pair) (by decide +kernel)) (fun _ _ _ _ _ => (pg_name (i := 2) nd rfl (by first | exact Or.inl rfl | exact Or.inr rfl))) (fun _ _ _ _ _ => (pts_one (PW.pt (pw_or (pt_not (pt_val (pe_callB call_isiA (by rfl) T.b_isinstance (by decide +kernel) (pa_cons (pv 2) (pa_cons (pe_bltn (v := .ty "int") (u := .type "int") (by rfl) T.b_int (by decide +kernel) rfl) pa_nil))))) (pw_or (pt_val (pe_callB call_isiA (by rfl) T.b_isinstance (by decide +kernel) (pa_cons (pv 2) (pa_cons (pe_bltn (v := .ty "bool") (u := .type "bool") (by rfl) T.b_bool (by decide +kernel) rfl) pa_nil)))) (pw_or1 (pt_not (pt_chain op_le op_lt pe_int (pv 2) (pv 0))))))))) (fun _ _ _ _ _ => pe_int)) (pe_lst pa_nil) (nomark _))))), ?_⟩
  exact def_ok (N := N__law_e_is_pair) ((rs_seq (rs_if (rt_or (rt_not (rt_B (b := true) (rf_cb (bi := true) (ra_cons rf_var (ra_cons rf_ty ra_nil)) (rc_isi T.ck)))) (rt_test (b := true) (rf_op (bi := true) (rf_cb (bi := true) (ra_cons rf_var ra_nil) rc_len) rf_int r2_ne))) (rs_ret rf_bl) rs_next) (rs_ret (rf_op (bi := true) (rf_fr (ro_lc (vs := [2]) (ri_seq rf_var) (rgn_name (by decide)) (rt_or (rt_not (rt_B (b := true) (rf_cb (bi := true) (ra_cons rf_var (ra_cons rf_ty ra_nil)) (rc_isi T.ck)))) (rt_or (rt_B (b := true) (rf_cb (bi := true) (ra_cons rf_var (ra_cons rf_ty ra_nil)) (rc_isi T.ck))) (rt_not (rt_test (b := true) (rf_chain (bi := true) rf_int rf_var rf_var r2_le r2_lt))))) (ro_leaf rf_int))) (rf_fr (ro_lst ra_nil)) r2_eq)))) h
abbrev N__law_due : List Str := ["n", "ties", "answer", "rows", "sorts", "counts", "x", "y"]
theorem sc__law_due : FnScope N__law_due ["n", "ties", "answer"] (defScope s__law_due) := ⟨rfl, rfl, rfl, by decide +kernel, rfl, by decide +kernel, by decide +kernel⟩
theorem ok__law_due {P : Program} {w : World} {K : PySem.W.Frag} {mg : Str → Option Value} {base : Heap} {A : Ad} (T : Txt K mg A) {fd : FuncData} (F : Fun K "_law_due" "_law_due" s__law_due A.f__law_due fd) {fd__law_e_tied : FuncData} (G__law_e_tied : FnOk P w K mg base CX0 1 A.f__law_e_tied fd__law_e_tied ["n", "ties"] (spD K A.cl 2 m__law_e_tied)) (B__law_e_tied : Binds K fd__law_e_tied ["n", "ties"] []) {fd__law_e_is_pair : FuncData} (G__law_e_is_pair : FnOk P w K mg base CX0 1 A.f__law_e_is_pair fd__law_e_is_pair ["n", "value"] (spD K A.cl 2 m__law_e_is_pair)) (B__law_e_is_pair : Binds K fd__law_e_is_pair ["n", "value"] []) {fd__law_e_both : FuncData} (G__law_e_both : FnOk P w K mg base CX0 1 A.f__law_e_both fd__law_e_both ["rows", "x", "y"] (spD K A.cl 3 m__law_e_both)) (B__law_e_both : Binds K fd__law_e_both ["rows", "x", "y"] []) : FnOk P w K mg base CX0 2 A.f__law_due fd ["n", "ties", "answer"] (spD K A.cl 3 m__law_due) := by
  refine F.ok sc__law_due (fun vs H Q E h => spD_len h) (fun cdv A0 outer s H vs Q E hr h => ?_)
  have nd := sc__law_due.nd
  have hu := hu_of hr
  refine ⟨_, (pss_cons (ps_set (i := 3) nd rfl (Or.inr rfl) (pe_call G__law_e_tied (hr.mono (by omega)) rfl T.g__law_e_tied T.k__law_e_tied B__law_e_tied .nil pass0 (pa_cons (pv 0) (pa_cons (pv 1) pa_nil)))) (pss_cons (ps_if (pt_not (pt_val (pe_call G__law_e_is_pair (hr.mono (by omega)) rfl T.g__law_e_is_pair T.k__law_e_is_pair B__law_e_is_pair .nil pass0 (pa_cons (pv 0) (pa_cons (pe_ix (ix_sub hu) (pv 2) pe_int (fun _ _ => rfl)) pa_nil))))) (pss_one (ps_ret (pe_tup (pa_cons pe_str pa_nil)))) pss_nil) (pss_cons (ps_if (pt_not (pt_val (pe_call G__law_e_is_pair (hr.mono (by omega)) rfl T.g__law_e_is_pair T.k__law_e_is_pair B__law_e_is_pair .nil pass0 (pa_cons (pv 0) (pa_cons (pe_ix (ix_sub hu) (pv 2) pe_int (fun _ _ => rfl)) pa_nil))))) (pss_one (ps_ret (pe_tup (pa_cons pe_str pa_nil)))) pss_nil) (pss_cons (ps_setLc (i := 4) (own := [("x", 6), ("y", 7)]) (g := (gTup K 2 (gCons (gName 6) (gCons (gName 7) gNil)))) (tt := tYes) (te := (tIf (tTest (tOp (rEqD K) (tVar 6) (tVar 7))) (tC (.int 0)) (tOp rMinE (tC (.int 2)) (tOp (rSub K) (tOp (rSub K) (tVar 3) (tVar 6)) (tVar 7))))) rfl nd rfl rfl (sw_true rfl rfl rfl (by decide +kernel)) (pi_seq (pv 2)) (blkOk_by (N := N__law_due) (sc := defScope s__law_due) (by decide +kernel)) (fun _ _ _ _ _ => (pg_tup rfl (pgs_cons (pg_name (i := 6) nd rfl (by first | exact Or.inl rfl | exact Or.inr rfl)) (pgs_cons (pg_name (i := 7) nd rfl (by first | exact Or.inl rfl | exact Or.inr rfl)) pgs_nil)))) (fun _ _ _ _ _ => pts_nil) (fun _ _ _ _ _ => (pe_ifExp (pt_cmpR (op_eqD hr.units) (pv 6) (pv 7) (nomark _)) pe_int (pe_op op_sub pe_int (pe_ix (ix_sub hu) (pe_ix (ix_sub hu) (pv 3) (pv 6) (fun _ _ => rfl)) (pv 7) (fun _ _ => rfl)))))) (pss_cons (ps_if (pt_cmpR (op_neD hr.units) (pe_ix (ix_sub hu) (pv 4) pe_int (fun _ _ => rfl)) (pe_ix (ix_sub hu) (pv 4) pe_int (fun _ _ => rfl)) (nomark _)) (pss_one (ps_ret (pe_tup (pa_cons pe_str pa_nil)))) pss_nil) (pss_cons (ps_setLc (i := 5) (own := [("x", 6), ("y", 7)]) (g := (gTup K 2 (gCons (gName 6) (gCons (gName 7) gNil)))) (tt := tYes) (te := (tCall (spD K A.cl 3 m__law_e_both) [] E0 (tCons (tVar 3) (tCons (tVar 6) (tCons (tVar 7) tNil))))) rfl nd rfl rfl (sw_true rfl rfl rfl (by decide +kernel)) (pi_seq (pv 2)) (blkOk_by (N := N__law_due) (sc := defScope s__law_due) (by decide +kernel)) (fun _ _ _ _ _ => (pg_tup rfl (pgs_cons (pg_name (i := 6) nd rfl (by first | exact Or.inl rfl | exact Or.inr rfl)) (pgs_cons (pg_name (i := 7) nd rfl (by first | exact Or.inl rfl | exact Or.inr rfl)) pgs_nil)))) (fun _ _ _ _ _ => pts_nil) (fun _ _ _ _ _ => (pe_call G__law_e_both (hr.mono (by omega)) rfl T.g__law_e_both T.k__law_e_both B__law_e_both .nil pass0 (pa_cons (pv 3) (pa_cons (pv 6) (pa_cons (pv 7) pa_nil)))))) (pss_one (ps_ret (pe_ifExp (pt_cmpR (op_eqD hr.units) (pe_ix (ix_sub hu) (pv 5) pe_int (fun _ _ => rfl)) (pe_ix (ix_sub hu) (pv 5) pe_int (fun _ _ => rfl)) (nomark _)) (pe_tup (pa_cons pe_str pa_nil)) pe_non))))))))), ?_⟩
  exact def_ok (N := N__law_due) ((rs_seq (rs_asg (rf_def (n := 2) (m := m__law_e_tied) (ra_cons rf_var (ra_cons rf_var ra_nil)))) (rs_seq (rs_if (rt_not (rt_B (b := true) (rf_def (n := 2) (m := m__law_e_is_pair) (ra_cons rf_var (ra_cons (rf_op (bi := true) rf_var rf_int r2_sub2) ra_nil))))) (rs_ret (rf_tup (ra_cons rf_str ra_nil))) rs_next) (rs_seq (rs_if (rt_not (rt_B (b := true) (rf_def (n := 2) (m := m__law_e_is_pair) (ra_cons rf_var (ra_cons (rf_op (bi := true) rf_var rf_int r2_sub2) ra_nil))))) (rs_ret (rf_tup (ra_cons rf_str ra_nil))) rs_next) (rs_seq (rs_asg (rf_fr (ro_lc (vs := [6, 7]) (ri_seq rf_var) (rgn_tup (rgns_cons (rgn_name (by decide)) (rgns_cons (rgn_name (by decide)) rgns_nil))) rt_yes (ro_leaf (rf_if (rt_test (b := true) (rf_op (bi := true) rf_var rf_var r2_eq)) rf_int (rf_op (bi := true) rf_int (rf_op (bi := true) (rf_op (bi := true) rf_var rf_var r2_sub2) rf_var r2_sub2) r2_sub)))))) (rs_seq (rs_if (rt_test (b := true) (rf_op (bi := true) (rf_op (bi := true) rf_var rf_int r2_sub2) (rf_op (bi := true) rf_var rf_int r2_sub2) r2_ne)) (rs_ret (rf_tup (ra_cons rf_str ra_nil))) rs_next) (rs_seq (rs_asg (rf_fr (ro_lc (vs := [6, 7]) (ri_seq rf_var) (rgn_tup (rgns_cons (rgn_name (by decide)) (rgns_cons (rgn_name (by decide)) rgns_nil))) rt_yes (ro_leaf (rf_def (n := 3) (m := m__law_e_both) (ra_cons rf_var (ra_cons rf_var (ra_cons rf_var ra_nil)))))))) (rs_ret (rf_if (rt_test (b := true) (rf_op (bi := true) (rf_op (bi := true) rf_var rf_int r2_sub2) (rf_op (bi := true) rf_var rf_int r2_sub2) r2_eq)) (rf_tup (ra_cons rf_str ra_nil)) rf_non))))))))) h
abbrev N__law_some_pair : List Str := ["pen", "n"]
theorem sc__law_some_pair : FnScope N__law_some_pair ["pen", "n"] (defScope s__law_some_pair) := ⟨rfl, rfl, rfl, by decide +kernel, rfl, by decide +kernel, by decide +kernel⟩
theorem ok__law_some_pair {P : Program} {w : World} {K : PySem.W.Frag} {mg : Str → Option Value} {base : Heap} {A : Ad} (T : Txt K mg A) {fd : FuncData} (F : Fun K "_law_some_pair" "_law_some_pair" s__law_some_pair A.f__law_some_pair fd) {fd__law_draw : FuncData} (G__law_draw : FnOk P w K mg base CX0 1 A.f__law_draw fd__law_draw ["pen", "many"] (spDraw K)) (B__law_draw : Binds K fd__law_draw ["pen", "many"] []) {fd__law_pick : FuncData} (G__law_pick : FnOk P w K mg base CX0 2 A.f__law_pick fd__law_pick ["pen", "some"] (spD K A.cl 2 m__law_pick)) (B__law_pick : Binds K fd__law_pick ["pen", "some"] []) : FnOk P w K mg base CX0 3 A.f__law_some_pair fd ["pen", "n"] (spD K A.cl 2 m__law_some_pair) := by
  refine F.ok sc__law_some_pair (fun vs H Q E h => spD_len h) (fun cdv A0 outer s H vs Q E hr h => ?_)
  have nd := sc__law_some_pair.nd
  have hu := hu_of hr
  refine ⟨_, (pss_cons (ps_if (pt_cmpR (op_eqD hr.units) (pe_call G__law_draw (hr.mono (by omega)) rfl T.g__law_draw T.k__law_draw B__law_draw .nil pass0 (pa_cons (pv 0) (pa_cons pe_int pa_nil))) pe_int (nomark _)) (pss_one (ps_ret (pe_call G__law_pick (hr.mono (by omega)) rfl T.g__law_pick T.k__law_pick B__law_pick .nil pass0 (pa_cons (pv 0) (pa_cons (pe_lst (pa_cons pe_non (pa_cons pe_int (pa_cons (pe_tup pa_nil) (pa_cons (pe_tup (pa_cons pe_int pa_nil)) (pa_cons (pe_tup (pa_cons pe_int (pa_cons (pv 1) pa_nil))) (pa_cons (pe_tup (pa_cons (pe_un un_neg pe_int) (pa_cons pe_int pa_nil))) (pa_cons (pe_tup (pa_cons pe_bl (pa_cons pe_int pa_nil))) (pa_cons (pe_tup (pa_cons pe_int (pa_cons pe_non pa_nil))) (pa_cons (pe_tup (pa_cons pe_int (pa_cons pe_int (pa_cons pe_int pa_nil)))) pa_nil)))))))))) pa_nil))))) pss_nil) (pss_one (ps_ret (pe_tup (pa_cons (pe_call G__law_draw (hr.mono (by omega)) rfl T.g__law_draw T.k__law_draw B__law_draw .nil pass0 (pa_cons (pv 0) (pa_cons (pv 1) pa_nil))) (pa_cons (pe_call G__law_draw (hr.mono (by omega)) rfl T.g__law_draw T.k__law_draw B__law_draw .nil pass0 (pa_cons (pv 0) (pa_cons (pv 1) pa_nil))) pa_nil)))))), ?_⟩
  exact def_ok (N := N__law_some_pair) ((rs_seq (rs_if (rt_test (b := true) (rf_op (bi := true) (rf_draw (ra_cons rf_var (ra_cons rf_int ra_nil))) rf_int r2_eq)) (rs_ret (rf_def (n := 2) (m := m__law_pick) (ra_cons rf_var (ra_cons (rf_fr (ro_lst (ra_cons rf_non (ra_cons rf_int (ra_cons (rf_tup ra_nil) (ra_cons (rf_tup (ra_cons rf_int ra_nil)) (ra_cons (rf_tup (ra_cons rf_int (ra_cons rf_var ra_nil))) (ra_cons (rf_tup (ra_cons (rf_neg (bi := true) rf_int) (ra_cons rf_int ra_nil))) (ra_cons (rf_tup (ra_cons rf_bl (ra_cons rf_int ra_nil))) (ra_cons (rf_tup (ra_cons rf_int (ra_cons rf_non ra_nil))) (ra_cons (rf_tup (ra_cons rf_int (ra_cons rf_int (ra_cons rf_int ra_nil)))) ra_nil))))))))))) ra_nil)))) rs_next) (rs_ret (rf_tup (ra_cons (rf_draw (ra_cons rf_var (ra_cons rf_var ra_nil))) (ra_cons (rf_draw (ra_cons rf_var (ra_cons rf_var ra_nil))) ra_nil)))))) h
abbrev N_law : List Str := ["script", "pen", "lap", "n", "ties", "due", "step", "answer", "some", "at", "fault", "truths", "item"]
theorem sc_law : FnScope N_law ["script"] (defScope s_law) := ⟨rfl, rfl, rfl, by decide +kernel, rfl, by decide +kernel, by decide +kernel⟩
theorem ok_law {P : Program} {w : World} {K : PySem.W.Frag} {mg : Str → Option Value} {base : Heap} {A : Ad} (T : Txt K mg A) {fd : FuncData} (F : Fun K "law" "law" s_law A.f_law fd) {fd__law_pen : FuncData} (G__law_pen : FnOk P w K mg base CX0 1 A.f__law_pen fd__law_pen ["script"] (spPen K)) (B__law_pen : Binds K fd__law_pen ["script"] []) {fd__law_e_some_web : FuncData} (G__law_e_some_web : FnOk P w K mg base CX0 3 A.f__law_e_some_web fd__law_e_some_web ["pen"] (spD K A.cl 1 m__law_e_some_web)) (B__law_e_some_web : Binds K fd__law_e_some_web ["pen"] []) {fd__law_e_strong : FuncData} (G__law_e_strong : FnOk P w K mg base CX0 2 A.f__law_e_strong fd__law_e_strong ["n", "ties"] (spD K A.cl 2 m__law_e_strong)) (B__law_e_strong : Binds K fd__law_e_strong ["n", "ties"] []) {fd_Strong_eq : FuncData} (G_Strong_eq : FnOk P w K mg base CX0 1 A.f_Strong_eq fd_Strong_eq ["self", "other"] (spD K A.cl 2 m_Strong_eq)) (B_Strong_eq : Binds K fd_Strong_eq ["self", "other"] []) {fd_NotStrong_eq : FuncData} (G_NotStrong_eq : FnOk P w K mg base CX0 1 A.f_NotStrong_eq fd_NotStrong_eq ["self", "other"] (spD K A.cl 2 m_NotStrong_eq)) (B_NotStrong_eq : Binds K fd_NotStrong_eq ["self", "other"] []) {fd_strong_fault : FuncData} (G_strong_fault : FnOk P w K mg base CX0 8 A.f_strong_fault fd_strong_fault ["n", "ties", "answer"] (spD K A.cl 3 m_strong_fault)) (B_strong_fault : Binds K fd_strong_fault ["n", "ties", "answer"] []) {fd_Strong_init : FuncData} (G_Strong_init : FnOk P w K mg base CX0 1 A.f_Strong_init fd_Strong_init ["self", "k", "l", "m"] (spI K A.cl 3 1 m_Strong_init)) (B_Strong_init : Binds K fd_Strong_init ["self", "k", "l", "m"] []) {fd_NotStrong_init : FuncData} (G_NotStrong_init : FnOk P w K mg base CX0 5 A.f_NotStrong_init fd_NotStrong_init ["self", "one", "other"] (spI K A.cl 2 2 m_NotStrong_init)) (B_NotStrong_init : Binds K fd_NotStrong_init ["self", "one", "other"] []) {fd__law_some_pair : FuncData} (G__law_some_pair : FnOk P w K mg base CX0 3 A.f__law_some_pair fd__law_some_pair ["pen", "n"] (spD K A.cl 2 m__law_some_pair)) (B__law_some_pair : Binds K fd__law_some_pair ["pen", "n"] []) {fd__law_due : FuncData} (G__law_due : FnOk P w K mg base CX0 2 A.f__law_due fd__law_due ["n", "ties", "answer"] (spD K A.cl 3 m__law_due)) (B__law_due : Binds K fd__law_due ["n", "ties", "answer"] []) {fd__law_draw : FuncData} (G__law_draw : FnOk P w K mg base CX0 1 A.f__law_draw fd__law_draw ["pen", "many"] (spDraw K)) (B__law_draw : Binds K fd__law_draw ["pen", "many"] []) {fd__law_pick : FuncData} (G__law_pick : FnOk P w K mg base CX0 2 A.f__law_pick fd__law_pick ["pen", "some"] (spD K A.cl 2 m__law_pick)) (B__law_pick : Binds K fd__law_pick ["pen", "some"] []) (plain : ∀ π : Pen, π.new → ∃ π', b_law (.un :: .sh .pen :: List.replicate 11 .un) π = some (.ret (.bl true), π')) : FnOk P w K mg base CX0 9 A.f_law fd ["script"] (spLaw K) := by
  refine F.ok sc_law (fun vs H Q E h => by obtain ⟨_, _, rfl, _⟩ := h; rfl) (fun cdv A0 outer s H vs Q E hr h => ?_)
  have nd := sc_law.nd
  have hu := hu_of hr
  refine ⟨_, (pss_cons (ps_set (i := 1) nd rfl (Or.inl rfl) (pe_call G__law_pen (hr.mono (by omega)) rfl T.g__law_pen T.k__law_pen B__law_pen .nil pass0 (pa_cons (pv 0) pa_nil))) (pss_cons (ps_for PassesOwn.never rfl (pi_range1 rfl T.b_range (pa_cons pe_int pa_nil)) (pg_name (i := 2) nd rfl (Or.inl rfl)) (pss_cons (ps_asg (pe_call G__law_e_some_web (hr.mono (by omega)) rfl T.g__law_e_some_web T.k__law_e_some_web B__law_e_some_web .nil pass0 (pa_cons (pv 1) pa_nil)) (pg_tup rfl (pgs_cons (pg_name (i := 3) nd rfl (Or.inl rfl)) (pgs_cons (pg_name (i := 4) nd rfl (Or.inl rfl)) pgs_nil)))) (pss_cons (ps_set (i := 5) nd rfl (Or.inl rfl) (pe_call G__law_e_strong (hr.mono (by omega)) rfl T.g__law_e_strong T.k__law_e_strong B__law_e_strong .nil pass0 (pa_cons (pv 3) (pa_cons (pv 4) pa_nil)))) (pss_cons (ps_for PassesOwn.never rfl (pi_range1 rfl T.b_range (pa_cons pe_int pa_nil)) (pg_name (i := 6) nd rfl (Or.inl rfl)) (pss_cons (ps_set (i := 7) nd rfl (Or.inl rfl) (pe_lst (pa_cons (pe_call G__law_some_pair (hr.mono (by omega)) rfl T.g__law_some_pair T.k__law_some_pair B__law_some_pair .nil pass0 (pa_cons (pv 1) (pa_cons (pv 3) pa_nil))) (pa_cons (pe_call G__law_some_pair (hr.mono (by omega)) rfl T.g__law_some_pair T.k__law_some_pair B__law_some_pair .nil pass0 (pa_cons (pv 1) (pa_cons (pv 3) pa_nil))) pa_nil)))) (pss_cons (ps_if (pt_cmpR (op_neD hr.units) (pe_call G_strong_fault (hr.mono (by omega)) rfl T.g_strong_fault T.k_strong_fault B_strong_fault .nil pass0 (pa_cons (pv 3) (pa_cons (pv 4) (pa_cons (pe_make T.mk_NotStrong G_NotStrong_init (hr.mono (by omega)) rfl T.m_NotStrong B_NotStrong_init .nil pass0 (pa_cons (pe_ix (ix_sub hu) (pv 7) pe_int (fun _ _ => rfl)) (pa_cons (pe_ix (ix_sub hu) (pv 7) pe_int (fun _ _ => rfl)) pa_nil))) pa_nil)))) (pe_call G__law_due (hr.mono (by omega)) rfl T.g__law_due T.k__law_due B__law_due .nil pass0 (pa_cons (pv 3) (pa_cons (pv 4) (pa_cons (pv 7) pa_nil)))) (nomark _)) (pss_one (ps_ret pe_bl)) pss_nil) (pss_cons (ps_set (i := 8) nd rfl (Or.inl rfl) (pe_ifExp (pt_cmpR op_notN (pv 5) pe_non (nomark _)) (pe_callTy (call_listA rfl) (by rfl) T.b_list (by decide +kernel) (pa_cons (pv 5) pa_nil)) (pe_lst (pa_cons pe_int (pa_cons pe_int (pa_cons pe_int pa_nil)))))) (pss_cons (ps_if (pt_cmpR op_gt (pe_call G__law_draw (hr.mono (by omega)) rfl T.g__law_draw T.k__law_draw B__law_draw .nil pass0 (pa_cons (pv 1) (pa_cons pe_int pa_nil))) pe_int (nomark _)) (pss_cons (ps_set (i := 9) nd rfl (Or.inl rfl) (pe_call G__law_draw (hr.mono (by omega)) rfl T.g__law_draw T.k__law_draw B__law_draw .nil pass0 (pa_cons (pv 1) (pa_cons pe_int pa_nil)))) (pss_one (ps_asg (pe_call G__law_pick (hr.mono (by omega)) rfl T.g__law_pick T.k__law_pick B__law_pick .nil pass0 (pa_cons (pv 1) (pa_cons (pe_lst (pa_cons pe_non (pa_cons pe_int (pa_cons pe_int (pa_cons pe_int (pa_cons pe_int (pa_cons pe_bl (pa_cons pe_bl (pa_cons pe_str pa_nil))))))))) pa_nil))) (pg_sub (pv 8) (pv 9) (set_any hu))))) pss_nil) (pss_cons (ps_set (i := 10) nd rfl (Or.inl rfl) (pe_tup (pa_cons pe_str pa_nil))) (pss_cons (ps_if (pt_cmpR op_notN (pv 5) pe_non (nomark _)) (pss_cons (ps_setLc (i := 11) (own := [("item", 12)]) (g := (gName 12)) (tt := (tB (tCB (rIsiA K) (tCons (tVar 12) (tCons (tC (.ty "bool")) tNil))))) (te := (tC (.int 1))) rfl nd rfl rfl (sw_true rfl rfl rfl (by decide +kernel)) (pi_seq (pv 8)) (blkOk_by (N := N_law) (sc := defScope s_law) (by decide +kernel)) (fun _ _ _ _ _ => (pg_name (i := 12) nd rfl (by first | exact Or.inl rfl | exact Or.inr rfl))) (fun _ _ _ _ _ => (pts_one (pt_val (pe_callB call_isiA (by rfl) T.b_isinstance (by decide +kernel) (pa_cons (pv 12) (pa_cons (pe_bltn (v := .ty "bool") (u := .type "bool") (by rfl) T.b_bool (by decide +kernel) rfl) pa_nil)))))) (fun _ _ _ _ _ => pe_int)) (pss_one (ps_set (i := 10) nd rfl (Or.inl rfl) (pe_ifExp (PW.pt (pw_and (pt_cmpR (op_eqD hr.units) (pe_tupleOf (by rfl) T.b_tuple (pv 8)) (pv 5) (nomark _)) (pw_and1 (pt_cmpR (op_eqD hr.units) (pv 11) (pe_lst pa_nil) (nomark _))))) pe_non (pe_tup (pa_cons pe_str pa_nil)))))) pss_nil) (pss_one (ps_if (pt_cmpR (op_neD hr.units) (pe_call G_strong_fault (hr.mono (by omega)) rfl T.g_strong_fault T.k_strong_fault B_strong_fault .nil pass0 (pa_cons (pv 3) (pa_cons (pv 4) (pa_cons (pe_make T.mk_Strong G_Strong_init (hr.mono (by omega)) rfl T.m_Strong B_Strong_init .nil pass0 (pa_cons (pe_ix (ix_sub hu) (pv 8) pe_int (fun _ _ => rfl)) (pa_cons (pe_ix (ix_sub hu) (pv 8) pe_int (fun _ _ => rfl)) (pa_cons (pe_ix (ix_sub hu) (pv 8) pe_int (fun _ _ => rfl)) pa_nil)))) pa_nil)))) (pv 10) (nomark _)) (pss_one (ps_ret pe_bl)) pss_nil))))))))) (pss_one (ps_if (pt_cmpR (op_neD hr.units) (pe_call G_strong_fault (hr.mono (by omega)) rfl T.g_strong_fault T.k_strong_fault B_strong_fault .nil pass0 (pa_cons (pv 3) (pa_cons (pv 4) (pa_cons (pe_call G__law_pick (hr.mono (by omega)) rfl T.g__law_pick T.k__law_pick B__law_pick .nil pass0 (pa_cons (pv 1) (pa_cons (pe_lst (pa_cons pe_non (pa_cons pe_int (pa_cons (pe_tup pa_nil) (pa_cons pe_str pa_nil))))) pa_nil))) pa_nil)))) (pe_tup (pa_cons pe_str pa_nil)) (nomark _)) (pss_one (ps_ret pe_bl)) pss_nil)))))) (pss_cons (ps_if (PW.pt (pw_or (pt_cmpR (op_ownNe T.oq_Strong G_Strong_eq (hr.mono (by omega)) B_Strong_eq pass0) (pe_make T.mk_Strong G_Strong_init (hr.mono (by omega)) rfl T.m_Strong B_Strong_init .nil pass0 (pa_cons pe_int (pa_cons pe_int (pa_cons pe_int pa_nil)))) (pe_make T.mk_Strong G_Strong_init (hr.mono (by omega)) rfl T.m_Strong B_Strong_init .nil pass0 (pa_cons pe_int (pa_cons pe_int (pa_cons pe_int pa_nil)))) (nomark _)) (pw_or1 (pt_cmpR (op_ownEq T.oq_Strong G_Strong_eq (hr.mono (by omega)) B_Strong_eq pass0) (pe_make T.mk_Strong G_Strong_init (hr.mono (by omega)) rfl T.m_Strong B_Strong_init .nil pass0 (pa_cons pe_int (pa_cons pe_int (pa_cons pe_int pa_nil)))) (pe_make T.mk_Strong G_Strong_init (hr.mono (by omega)) rfl T.m_Strong B_Strong_init .nil pass0 (pa_cons pe_int (pa_cons pe_int (pa_cons pe_int pa_nil)))) (nomark _))))) (pss_one (ps_ret pe_bl)) pss_nil) (pss_cons (ps_if (PW.pt (pw_or (pt_cmpR (op_ownEq T.oq_Strong G_Strong_eq (hr.mono (by omega)) B_Strong_eq pass0) (pe_make T.mk_Strong G_Strong_init (hr.mono (by omega)) rfl T.m_Strong B_Strong_init .nil pass0 (pa_cons pe_int (pa_cons pe_int (pa_cons pe_int pa_nil)))) (pe_make T.mk_Strong G_Strong_init (hr.mono (by omega)) rfl T.m_Strong B_Strong_init .nil pass0 (pa_cons pe_int (pa_cons pe_int (pa_cons pe_int pa_nil)))) (nomark _)) (pw_or1 (pt_cmpR (op_ownEq T.oq_Strong G_Strong_eq (hr.mono (by omega)) B_Strong_eq pass0) (pe_make T.mk_Strong G_Strong_init (hr.mono (by omega)) rfl T.m_Strong B_Strong_init .nil pass0 (pa_cons pe_int (pa_cons pe_int (pa_cons pe_int pa_nil)))) (pe_make T.mk_Strong G_Strong_init (hr.mono (by omega)) rfl T.m_Strong B_Strong_init .nil pass0 (pa_cons pe_int (pa_cons pe_int (pa_cons pe_int pa_nil)))) (nomark _))))) (pss_one (ps_ret pe_bl)) pss_nil) (pss_cons (ps_if (PW.pt (pw_or (pt_cmpR (op_ownNe T.oq_NotStrong G_NotStrong_eq (hr.mono (by omega)) B_NotStrong_eq pass0) (pe_make T.mk_NotStrong G_NotStrong_init (hr.mono (by omega)) rfl T.m_NotStrong B_NotStrong_init .nil pass0 (pa_cons (pe_lst (pa_cons pe_int (pa_cons pe_int pa_nil))) (pa_cons (pe_tup (pa_cons pe_int (pa_cons pe_int pa_nil))) pa_nil))) (pe_make T.mk_NotStrong G_NotStrong_init (hr.mono (by omega)) rfl T.m_NotStrong B_NotStrong_init .nil pass0 (pa_cons (pe_tup (pa_cons pe_int (pa_cons pe_int pa_nil))) (pa_cons (pe_lst (pa_cons pe_int (pa_cons pe_int pa_nil))) pa_nil))) (nomark _)) (pw_or1 (pt_cmpR (op_ownEq T.oq_NotStrong G_NotStrong_eq (hr.mono (by omega)) B_NotStrong_eq pass0) (pe_make T.mk_NotStrong G_NotStrong_init (hr.mono (by omega)) rfl T.m_NotStrong B_NotStrong_init .nil pass0 (pa_cons (pe_tup (pa_cons pe_int (pa_cons pe_int pa_nil))) (pa_cons (pe_tup (pa_cons pe_int (pa_cons pe_int pa_nil))) pa_nil))) (pe_make T.mk_NotStrong G_NotStrong_init (hr.mono (by omega)) rfl T.m_NotStrong B_NotStrong_init .nil pass0 (pa_cons (pe_tup (pa_cons pe_int (pa_cons pe_int pa_nil))) (pa_cons (pe_tup (pa_cons pe_int (pa_cons pe_int pa_nil))) pa_nil))) (nomark _))))) (pss_one (ps_ret pe_bl)) pss_nil) (pss_one (ps_ret (pe_and (pe_cmpR (op_ownNe T.oq_NotStrong G_NotStrong_eq (hr.mono (by omega)) B_NotStrong_eq pass0) (pe_make T.mk_NotStrong G_NotStrong_init (hr.mono (by omega)) rfl T.m_NotStrong B_NotStrong_init .nil pass0 (pa_cons (pe_tup (pa_cons pe_int (pa_cons pe_int pa_nil))) (pa_cons (pe_tup (pa_cons pe_int (pa_cons pe_int pa_nil))) pa_nil))) (pe_make T.mk_NotStrong G_NotStrong_init (hr.mono (by omega)) rfl T.m_NotStrong B_NotStrong_init .nil pass0 (pa_cons (pe_tup (pa_cons pe_int (pa_cons pe_int pa_nil))) (pa_cons (pe_tup (pa_cons pe_int (pa_cons pe_int pa_nil))) pa_nil))) (nomark _)) (pe_one (pe_cmpR (op_ownNe T.oq_Strong G_Strong_eq (hr.mono (by omega)) B_Strong_eq pass0) (pe_make T.mk_Strong G_Strong_init (hr.mono (by omega)) rfl T.m_Strong B_Strong_init .nil pass0 (pa_cons pe_int (pa_cons pe_int (pa_cons pe_int pa_nil)))) (pe_make T.mk_NotStrong G_NotStrong_init (hr.mono (by omega)) rfl T.m_NotStrong B_NotStrong_init .nil pass0 (pa_cons pe_int (pa_cons pe_int pa_nil))) (nomark _))))))))))), ?_⟩
  exact law_ok (cl := A.cl) (N := N_law) (k := 11) rfl ((rs_seq (rs_for (ri_range1 (ra_cons rf_int ra_nil)) rg_name (rs_seq (rs_asgG (rf_def (n := 1) (m := m__law_e_some_web) (ra_cons rf_var ra_nil)) (rg_tup (rgs_cons rg_name (rgs_cons rg_name rgs_nil)))) (rs_seq (rs_asg (rf_def (n := 2) (m := m__law_e_strong) (ra_cons rf_var (ra_cons rf_var ra_nil)))) (rs_seq (rs_for (ri_range1 (ra_cons rf_int ra_nil)) rg_name (rs_seq (rs_asg (rf_fr (ro_lst (ra_cons (rf_def (n := 2) (m := m__law_some_pair) (ra_cons rf_var (ra_cons rf_var ra_nil))) (ra_cons (rf_def (n := 2) (m := m__law_some_pair) (ra_cons rf_var (ra_cons rf_var ra_nil))) ra_nil))))) (rs_seq (rs_if (rt_test (b := true) (rf_op (bi := true) (rf_def (n := 3) (m := m_strong_fault) (ra_cons rf_var (ra_cons rf_var (ra_cons (rf_make (cn := 2) (n := 2) (m := m_NotStrong_init) (ra_cons (rf_op (bi := true) rf_var rf_int r2_sub2) (ra_cons (rf_op (bi := true) rf_var rf_int r2_sub2) ra_nil))) ra_nil)))) (rf_def (n := 3) (m := m__law_due) (ra_cons rf_var (ra_cons rf_var (ra_cons rf_var ra_nil)))) r2_ne)) (rs_ret rf_bl) rs_next) (rs_seq (rs_own (ro_if (rt_test (b := true) (rf_op (bi := true) rf_var rf_non r2_isNot)) (ro_listA (ra_cons rf_var ra_nil)) (ro_lst (ra_cons rf_int (ra_cons rf_int (ra_cons rf_int ra_nil)))))) (rs_seq (rs_if (rt_test (b := true) (rf_op (bi := true) (rf_draw (ra_cons rf_var (ra_cons rf_int ra_nil))) rf_int r2_gt)) (rs_seq (rs_asg (rf_draw (ra_cons rf_var (ra_cons rf_int ra_nil)))) (rs_asgG (rf_def (n := 2) (m := m__law_pick) (ra_cons rf_var (ra_cons (rf_fr (ro_lst (ra_cons rf_non (ra_cons rf_int (ra_cons rf_int (ra_cons rf_int (ra_cons rf_int (ra_cons rf_bl (ra_cons rf_bl (ra_cons rf_str ra_nil)))))))))) ra_nil))) (rg_set rl_var rf_var))) rs_next) (rs_seq (rs_asg (rf_tup (ra_cons rf_str ra_nil))) (rs_frz 8 (rs_seq (rs_if (rt_test (b := true) (rf_op (bi := true) rf_var rf_non r2_isNot)) (rs_seq (rs_asg (rf_fr (ro_lc (vs := [12]) (ri_seq rf_var) (rgn_name (by decide)) (rt_B (b := true) (rf_cb (bi := true) (ra_cons rf_var (ra_cons rf_ty ra_nil)) (rc_isi T.ck))) (ro_leaf rf_int)))) (rs_asg (rf_if (rt_and (rt_test (b := true) (rf_op (bi := true) (rf_tuple rf_var) rf_var r2_eq)) (rt_test (b := true) (rf_op (bi := true) rf_var (rf_fr (ro_lst ra_nil)) r2_eq))) rf_non (rf_tup (ra_cons rf_str ra_nil))))) rs_next) (rs_if (rt_test (b := true) (rf_op (bi := true) (rf_def (n := 3) (m := m_strong_fault) (ra_cons rf_var (ra_cons rf_var (ra_cons (rf_make (cn := 1) (n := 3) (m := m_Strong_init) (ra_cons (rf_op (bi := true) rf_var rf_int r2_sub2) (ra_cons (rf_op (bi := true) rf_var rf_int r2_sub2) (ra_cons (rf_op (bi := true) rf_var rf_int r2_sub2) ra_nil)))) ra_nil)))) rf_var r2_ne)) (rs_ret rf_bl) rs_next))))))))) (rs_if (rt_test (b := true) (rf_op (bi := true) (rf_def (n := 3) (m := m_strong_fault) (ra_cons rf_var (ra_cons rf_var (ra_cons (rf_def (n := 2) (m := m__law_pick) (ra_cons rf_var (ra_cons (rf_fr (ro_lst (ra_cons rf_non (ra_cons rf_int (ra_cons (rf_tup ra_nil) (ra_cons rf_str ra_nil)))))) ra_nil))) ra_nil)))) (rf_tup (ra_cons rf_str ra_nil)) r2_ne)) (rs_ret rf_bl) rs_next))))) (rs_seq (rs_if (rt_or (rt_test (b := true) (rf_own (n := 3) (c := 1) (fun c h => T.nf 1 c (by decide) h) (rf_make (cn := 1) (n := 3) (m := m_Strong_init) (ra_cons rf_int (ra_cons rf_int (ra_cons rf_int ra_nil)))) (rf_make (cn := 1) (n := 3) (m := m_Strong_init) (ra_cons rf_int (ra_cons rf_int (ra_cons rf_int ra_nil)))))) (rt_test (b := true) (rf_own (n := 3) (c := 1) (fun c h => T.nf 1 c (by decide) h) (rf_make (cn := 1) (n := 3) (m := m_Strong_init) (ra_cons rf_int (ra_cons rf_int (ra_cons rf_int ra_nil)))) (rf_make (cn := 1) (n := 3) (m := m_Strong_init) (ra_cons rf_int (ra_cons rf_int (ra_cons rf_int ra_nil))))))) (rs_ret rf_bl) rs_next) (rs_seq (rs_if (rt_or (rt_test (b := true) (rf_own (n := 3) (c := 1) (fun c h => T.nf 1 c (by decide) h) (rf_make (cn := 1) (n := 3) (m := m_Strong_init) (ra_cons rf_int (ra_cons rf_int (ra_cons rf_int ra_nil)))) (rf_make (cn := 1) (n := 3) (m := m_Strong_init) (ra_cons rf_int (ra_cons rf_int (ra_cons rf_int ra_nil)))))) (rt_test (b := true) (rf_own (n := 3) (c := 1) (fun c h => T.nf 1 c (by decide) h) (rf_make (cn := 1) (n := 3) (m := m_Strong_init) (ra_cons rf_int (ra_cons rf_int (ra_cons rf_int ra_nil)))) (rf_make (cn := 1) (n := 3) (m := m_Strong_init) (ra_cons rf_int (ra_cons rf_int (ra_cons rf_int ra_nil))))))) (rs_ret rf_bl) rs_next) (rs_seq (rs_if (rt_or (rt_test (b := true) (rf_own (n := 3) (c := 2) (fun c h => T.nf 2 c (by decide) h) (rf_make (cn := 2) (n := 2) (m := m_NotStrong_init) (ra_cons (rf_fr (ro_lst (ra_cons rf_int (ra_cons rf_int ra_nil)))) (ra_cons (rf_tup (ra_cons rf_int (ra_cons rf_int ra_nil))) ra_nil))) (rf_make (cn := 2) (n := 2) (m := m_NotStrong_init) (ra_cons (rf_tup (ra_cons rf_int (ra_cons rf_int ra_nil))) (ra_cons (rf_fr (ro_lst (ra_cons rf_int (ra_cons rf_int ra_nil)))) ra_nil))))) (rt_test (b := true) (rf_own (n := 3) (c := 2) (fun c h => T.nf 2 c (by decide) h) (rf_make (cn := 2) (n := 2) (m := m_NotStrong_init) (ra_cons (rf_tup (ra_cons rf_int (ra_cons rf_int ra_nil))) (ra_cons (rf_tup (ra_cons rf_int (ra_cons rf_int ra_nil))) ra_nil))) (rf_make (cn := 2) (n := 2) (m := m_NotStrong_init) (ra_cons (rf_tup (ra_cons rf_int (ra_cons rf_int ra_nil))) (ra_cons (rf_tup (ra_cons rf_int (ra_cons rf_int ra_nil))) ra_nil)))))) (rs_ret rf_bl) rs_next) (rs_ret (rf_and (bi := true) (rf_own (n := 3) (c := 2) (fun c h => T.nf 2 c (by decide) h) (rf_make (cn := 2) (n := 2) (m := m_NotStrong_init) (ra_cons (rf_tup (ra_cons rf_int (ra_cons rf_int ra_nil))) (ra_cons (rf_tup (ra_cons rf_int (ra_cons rf_int ra_nil))) ra_nil))) (rf_make (cn := 2) (n := 2) (m := m_NotStrong_init) (ra_cons (rf_tup (ra_cons rf_int (ra_cons rf_int ra_nil))) (ra_cons (rf_tup (ra_cons rf_int (ra_cons rf_int ra_nil))) ra_nil)))) (rf_own (n := 3) (c := 1) (fun c h => T.nf 1 c (by decide) h) (rf_make (cn := 1) (n := 3) (m := m_Strong_init) (ra_cons rf_int (ra_cons rf_int (ra_cons rf_int ra_nil)))) (rf_make (cn := 2) (n := 2) (m := m_NotStrong_init) (ra_cons rf_int (ra_cons rf_int ra_nil))))))))))) plain h
end Lk65
set_option Elab.async false
set_option linter.all false
set_option maxRecDepth 100000
set_option maxHeartbeats 4000000
namespace DL
open PySem L2

/-! ### mirrors reckoned: a mirror without draws is pure -/
theorem ofO_s {α : Type} (a : α) : (ofO (some a) : MM α) = pure a := rfl
theorem bind_p {α β : Type} (a : α) (f : α → MM β) : ((pure a : MM α) >>= f) = f a := rfl
theorem if_p {α : Type} (c : Prop) [Decidable c] (a b : α) : (if c then (pure a : MM α) else pure b) = pure (if c then a else b) := by split <;> rfl
theorem eq_ints (i j : Int) : dEq (.int i) (.int j) = some (.bl (decide (i = j))) := by
  have : PyData.eqv (.int i) (.int j) = decide (i = j) := by
    show (i == j) = decide (i = j)
    by_cases h : i = j <;> simp [h]
  unfold dEq dEqB
  simp [toPy, SeqAt.shaped, PyData.canLay0, PyData.depth, this]
theorem ne_ints (i j : Int) : dNe (.int i) (.int j) = some (.bl (!decide (i = j))) := by
  have : PyData.eqv (.int i) (.int j) = decide (i = j) := by
    show (i == j) = decide (i = j)
    by_cases h : i = j <;> simp [h]
  unfold dNe dEqB
  simp [toPy, SeqAt.shaped, PyData.canLay0, PyData.depth, this]
/-- a list comprehension of one clause, frozen -/
theorem lc_p {it : Env → MM (List D)} {tgf : D → Env → MM Env} {mt : Env → MM Bool} {mo : Env → MM M} {vs : List Nat} {ρ : Env} {ds : List D} {c : D → Bool} {f : D → D} (hi : it ρ = pure ds)
    (h : ∀ d ∈ ds, ∃ ρ1, tgf d (wipeE ρ vs) = pure ρ1 ∧ mt ρ1 = pure (c d) ∧ (c d = true → mo ρ1 = pure (.leaf (f d)))) (hl : ds.length ≤ 100000) : eFr (oLc it tgf mt mo vs) ρ = pure (.lst ((ds.filter c).map f)) := by
  have e : ∀ es : List D, (∀ d ∈ es, ∃ ρ1, tgf d (wipeE ρ vs) = pure ρ1 ∧ mt ρ1 = pure (c d) ∧ (c d = true → mo ρ1 = pure (.leaf (f d)))) → lcM tgf mt mo (wipeE ρ vs) es = pure (((es.filter c).map f).map M.leaf) := by
    intro es
    induction es with
    | nil => intro _; rfl
    | cons d r ih =>
      intro q
      obtain ⟨ρ1, h1, h2, h3⟩ := q d (by simp)
      have ih' := ih fun z hz => q z (List.mem_cons_of_mem _ hz)
      unfold lcM
      rw [h1, bind_p, h2, bind_p]
      cases hc : c d with
      | true => rw [if_pos rfl, h3 hc, bind_p, ih', bind_p, List.filter_cons_of_pos hc]; rfl
      | false => rw [if_neg (by decide), ih', List.filter_cons_of_neg (by simp [hc])]
  unfold eFr oLc
  simp only [hi, bind_p, e ds h]
  rw [if_pos (by simpa using Nat.le_trans (List.length_filter_le _ _) hl), bind_p]
  show (pure (M.toD (.lst _)) : MM D) = _
  rw [M.toD, leafs_toD]
theorem filter_true {α : Type} (l : List α) : l.filter (fun _ => true) = l := List.filter_eq_self.mpr fun _ _ => rfl
/-- .. without a test -/
theorem lc_all {it : Env → MM (List D)} {tgf : D → Env → MM Env} {me : Env → MM D} {vs : List Nat} {ρ : Env} {ds : List D} {f : D → D} (hi : it ρ = pure ds)
    (h : ∀ d ∈ ds, ∃ ρ1, tgf d (wipeE ρ vs) = pure ρ1 ∧ me ρ1 = pure (f d)) (hl : ds.length ≤ 100000) : eFr (oLc it tgf tYes' (oLeaf me) vs) ρ = pure (.lst (ds.map f)) := by
  have := lc_p (c := fun _ => true) (f := f) (mt := tYes') (mo := oLeaf me) (tgf := tgf) (vs := vs) hi (fun d hd => by
    obtain ⟨ρ1, h1, h2⟩ := h d hd
    exact ⟨ρ1, h1, rfl, fun _ => by unfold oLeaf; rw [h2, bind_p]⟩) hl
  rw [this, filter_true]
/-- a for loop that only goes through -/
theorem loop_skip {tgf : D → Env → MM Env} {body : Env → MM Out} (Inv : Env → Prop) (ok : ∀ d ρ, Inv ρ → ∃ ρ1 ρ2, tgf d ρ = pure ρ1 ∧ body ρ1 = pure (.next ρ2) ∧ Inv ρ2) : ∀ (ds : List D) (ρ : Env), Inv ρ → ∃ ρ2, loopM tgf body ds ρ = pure (.next ρ2) ∧ Inv ρ2
  | [], ρ, h => ⟨ρ, rfl, h⟩
  | d :: ds, ρ, h => by
    obtain ⟨ρ1, ρ2, h1, h2, h3⟩ := ok d ρ h
    obtain ⟨ρ3, h4, h5⟩ := loop_skip Inv ok ds ρ2 h3
    refine ⟨ρ3, ?_, h5⟩
    unfold loopM
    rw [h1, bind_p, h2, bind_p]
    exact h4
/-- .. with what is known of the place -/
theorem loop_p {tgf : D → Env → MM Env} {body : Env → MM Out} (Inv : Nat → Env → Prop) : ∀ (ds : List D) (i : Nat) (ρ : Env), (∀ j d ρ, ds[j]? = some d → Inv (i + j) ρ → ∃ ρ1 ρ2, tgf d ρ = pure ρ1 ∧ body ρ1 = pure (.next ρ2) ∧ Inv (i + j + 1) ρ2) → Inv i ρ →
    ∃ ρ2, loopM tgf body ds ρ = pure (.next ρ2) ∧ Inv (i + ds.length) ρ2
  | [], i, ρ, _, h => ⟨ρ, rfl, h⟩
  | d :: ds, i, ρ, ok, h => by
    obtain ⟨ρ1, ρ2, h1, h2, h3⟩ := ok 0 d ρ rfl h
    obtain ⟨ρ3, h4, h5⟩ := loop_p Inv ds (i + 1) ρ2 (fun j d ρ hj q => by
      have := ok (j + 1) d ρ (by simpa using hj) (by rw [show i + (j + 1) = i + 1 + j by omega]; exact q)
      rw [show i + (j + 1) + 1 = i + 1 + j + 1 by omega] at this
      exact this) h3
    refine ⟨ρ3, ?_, by rw [List.length_cons, show i + (ds.length + 1) = i + 1 + ds.length by omega]; exact h5⟩
    unfold loopM
    rw [h1, bind_p, h2, bind_p]
    exact h4
/-- an item by a place that is there -/
theorem atI_at {α : Type} {xs : List α} {i : Nat} {x : α} (h : xs[i]? = some x) : L2.atI xs (i : Int) = some x := atI_nat h
theorem rng_get {lo : Int} {n i : Nat} (h : i < n) : (rng lo n)[i]? = some (.int (lo + i)) := by
  unfold rng
  rw [List.getElem?_map, List.getElem?_range h]; rfl
theorem rng_length (lo : Int) (n : Nat) : (rng lo n).length = n := by unfold rng; rw [List.length_map, List.length_range]
end DL
set_option Elab.async false
set_option linter.all false
set_option maxRecDepth 100000
set_option maxHeartbeats 4000000
namespace Lk65
open PySem L2 DL

/-- plain data: no own things -/
def isInt : D → Bool
  | .int _ => true
  | _ => false
def isTup : D → Bool
  | .tup _ => true
  | _ => false
def isRow : D → Bool
  | .tup _ => true
  | .lst _ => true
  | _ => false
def isBl : D → Bool
  | .bl _ => true
  | _ => false
/-- a value whose type isinstance is asked of here -/
def plainD : D → Bool
  | .ty _ => false
  | .cls _ => false
  | .ins c _ _ => decide (c < 3)
  | _ => true
theorem isi_int (d : D) (h : plainD d = true) : dIsi 3 [d, .ty "int"] = some (.bl (isInt d || isBl d)) := by
  cases d <;> first | rfl | (simp [plainD] at h; simp [dIsi, tyD, isOne, bNames, h, isInt, isBl]) | (simp [plainD] at h)
theorem isi_bool (d : D) (h : plainD d = true) : dIsi 3 [d, .ty "bool"] = some (.bl (isBl d)) := by
  cases d <;> first | rfl | (simp [plainD] at h; simp [dIsi, tyD, isOne, bNames, h, isInt, isBl]) | (simp [plainD] at h)
theorem isi_tuple (d : D) (h : plainD d = true) : dIsi 3 [d, .ty "tuple"] = some (.bl (isTup d)) := by
  cases d <;> first | rfl | (simp [plainD] at h; simp [dIsi, tyD, isOne, bNames, h, isInt, isTup]) | (simp [plainD] at h)
theorem isi_row (d : D) (h : plainD d = true) : dIsi 3 [d, .tup [.ty "list", .ty "tuple"]] = some (.bl (isRow d)) := by
  cases d <;> first | rfl | (simp [plainD] at h; simp [dIsi, tyD, isAny, isOne, bNames, h, isRow, okT, D.isCls]) | (simp [plainD] at h)
theorem is_integer_p (d : D) (h : plainD d = true) : m_is_integer [d] = pure (.bl (isInt d)) := by
  unfold m_is_integer
  simp [runD, sSeq, sRet, sAsg, sIf, sNext, sDrop, eVar, eC, eBin, eUn, eCall, eDef, eTup, eIf, eAnd, eOr, eNot, aNil, aCons, tBool, tAnd', tOr', tNot', tYes', gNm, gTp, gsC, gsN, oLeaf, itS, itR1, itE, itZ, ofO_s, bind_p, isi_int d h, isi_bool d h]
  cases d <;> simp [isInt, isBl, bind_p]
theorem is_row_p (d : D) (h : plainD d = true) : m_is_row [d] = pure (.bl (isRow d)) := by
  unfold m_is_row
  simp [runD, sSeq, sRet, sAsg, sIf, sNext, sDrop, eVar, eC, eBin, eUn, eCall, eDef, eTup, eIf, eAnd, eOr, eNot, aNil, aCons, tBool, tAnd', tOr', tNot', tYes', gNm, gTp, gsC, gsN, oLeaf, itS, itR1, itE, itZ, ofO_s, bind_p, isi_row d h]
theorem is_thing_p (n : Int) (d : D) (h : plainD d = true) : m_is_thing [.int n, d] = pure (.bl (match d with | .int x => decide (0 ≤ x ∧ x < n) | _ => false)) := by
  unfold m_is_thing
  simp [runD, sSeq, sRet, sAsg, sIf, sNext, sDrop, eVar, eC, eBin, eUn, eCall, eDef, eTup, eIf, eAnd, eOr, eNot, aNil, aCons, tBool, tAnd', tOr', tNot', tYes', gNm, gTp, gsC, gsN, oLeaf, itS, itR1, itE, itZ, ofO_s, bind_p, is_integer_p d h]
  cases d <;> simp [isInt, eChain, dLe, dLt, dI2, eC, eVar, bind_p, ofO_s]
  rename_i i
  by_cases c : 0 ≤ i <;> simp [c, bind_p, ofO_s, eVar]
end Lk65
set_option Elab.async false
set_option linter.all false
set_option maxRecDepth 100000
set_option maxHeartbeats 4000000
namespace DL
open PySem L2

/-! ### tables of ints: owned and frozen -/
/-- a fresh list comprehension of one clause without a test -/
theorem lco_all {it : Env → MM (List D)} {tgf : D → Env → MM Env} {mo : Env → MM M} {vs : List Nat} {ρ : Env} {ds : List D} {f : D → M} (hi : it ρ = pure ds)
    (h : ∀ d ∈ ds, ∃ ρ1, tgf d (wipeE ρ vs) = pure ρ1 ∧ mo ρ1 = pure (f d)) (hl : ds.length ≤ 100000) : oLc it tgf tYes' mo vs ρ = pure (.lst (ds.map f)) := by
  have e : ∀ es : List D, (∀ d ∈ es, ∃ ρ1, tgf d (wipeE ρ vs) = pure ρ1 ∧ mo ρ1 = pure (f d)) → lcM tgf tYes' mo (wipeE ρ vs) es = pure (es.map f) := by
    intro es
    induction es with
    | nil => intro _; rfl
    | cons d r ih =>
      intro q
      obtain ⟨ρ1, h1, h2⟩ := q d (by simp)
      have ih' := ih fun z hz => q z (List.mem_cons_of_mem _ hz)
      unfold lcM
      rw [h1, bind_p, show tYes' ρ1 = pure true from rfl, bind_p, if_pos rfl, h2, bind_p, ih', bind_p]
      rfl
  unfold oLc
  simp only [hi, bind_p, e ds h]
  rw [if_pos (by simpa using hl)]
/-- two clauses, the first without a test, frozen: the rows of the outer ones one behind the other -/
theorem lc2_all {it it1 : Env → MM (List D)} {tgf tgf1 : D → Env → MM Env} {me : Env → MM D} {vs vs1 : List Nat} {ρ : Env} {ds : List D} {g : D → List D} {f : D → D → D} (hi : it ρ = pure ds)
    (h : ∀ d ∈ ds, ∃ ρ1, tgf d (wipeE ρ vs) = pure ρ1 ∧ it1 ρ1 = pure (g d) ∧ ∀ e ∈ g d, ∃ ρ2, tgf1 e (wipeE ρ1 vs1) = pure ρ2 ∧ me ρ2 = pure (f d e)) (hl : (ds.flatMap fun d => (g d).map (f d)).length ≤ 100000) :
    eFr (oLc2 it tgf tYes' it1 tgf1 tYes' (oLeaf me) vs vs1) ρ = pure (.lst (ds.flatMap fun d => (g d).map (f d))) := by
  have e1 : ∀ (d : D) (ρ1 : Env) (es : List D), (∀ e ∈ es, ∃ ρ2, tgf1 e ρ1 = pure ρ2 ∧ me ρ2 = pure (f d e)) → lcM tgf1 tYes' (oLeaf me) ρ1 es = pure ((es.map (f d)).map M.leaf) := by
    intro d ρ1 es
    induction es with
    | nil => intro _; rfl
    | cons x r ih =>
      intro q
      obtain ⟨ρ2, h1, h2⟩ := q x (by simp)
      have ih' := ih fun z hz => q z (List.mem_cons_of_mem _ hz)
      unfold lcM
      rw [h1, bind_p, show tYes' ρ2 = pure true from rfl, bind_p, if_pos rfl, show oLeaf me ρ2 = pure (.leaf (f d x)) by unfold oLeaf; rw [h2, bind_p], bind_p, ih', bind_p]
      rfl
  have e : ∀ es : List D, (∀ d ∈ es, ∃ ρ1, tgf d (wipeE ρ vs) = pure ρ1 ∧ it1 ρ1 = pure (g d) ∧ ∀ e ∈ g d, ∃ ρ2, tgf1 e (wipeE ρ1 vs1) = pure ρ2 ∧ me ρ2 = pure (f d e)) → lcM2 tgf tYes' (lcM1 it1 tgf1 tYes' (oLeaf me) vs1) (wipeE ρ vs) es = pure ((es.flatMap fun d => (g d).map (f d)).map M.leaf) := by
    intro es
    induction es with
    | nil => intro _; rfl
    | cons d r ih =>
      intro q
      obtain ⟨ρ1, h1, h2, h3⟩ := q d (by simp)
      have ih' := ih fun z hz => q z (List.mem_cons_of_mem _ hz)
      unfold lcM2
      rw [h1, bind_p, show tYes' ρ1 = pure true from rfl, bind_p, if_pos rfl, show lcM1 it1 tgf1 tYes' (oLeaf me) vs1 ρ1 = pure (((g d).map (f d)).map M.leaf) by unfold lcM1; rw [h2, bind_p, e1 d _ _ h3], bind_p, ih', bind_p, List.flatMap_cons, List.map_append]
  unfold eFr oLc2
  simp only [hi, bind_p, e ds h]
  rw [if_pos (by simpa using hl), bind_p]
  show (pure (M.toD (.lst _)) : MM D) = _
  rw [M.toD, leafs_toD]
theorem eTuple_lst {me : Env → MM D} {ρ : Env} {xs : List D} (h : me ρ = pure (.lst xs)) : eTuple me ρ = pure (.tup xs) := by unfold eTuple; rw [h]; rfl
theorem eTuple_tup {me : Env → MM D} {ρ : Env} {xs : List D} (h : me ρ = pure (.tup xs)) : eTuple me ρ = pure (.tup xs) := by unfold eTuple; rw [h]; rfl
theorem eFr_p {mo : Env → MM M} {ρ : Env} {m : M} (h : mo ρ = pure m) : eFr mo ρ = pure m.toD := by unfold eFr; rw [h]; rfl
theorem toD_leafs (l : List D) : (M.lst (l.map .leaf)).toD = .lst l := by rw [M.toD, leafs_toD]
theorem dMul_small {i j : Int} (h : i.natAbs < 2 ^ 20) (h2 : j.natAbs < 2 ^ 20) : dMul (.int i) (.int j) = some (.int (i * j)) := by
  have q : (2 : Nat) ^ 20 ≤ 2 ^ 100000 := Nat.pow_le_pow_right (by decide) (by decide)
  unfold dMul
  exact if_pos ⟨Nat.lt_of_lt_of_le h q, Nat.lt_of_lt_of_le h2 q⟩
theorem dAdd_tup {a c : List D} (h : a.length + c.length ≤ 100000) : dAdd (.tup a) (.tup c) = some (.tup (a ++ c)) := by
  simp only [dAdd]
  rw [if_pos h]
theorem dAdd_lst {a c : List D} (h : a.length + c.length ≤ 100000) : dAdd (.lst a) (.lst c) = some (.lst (a ++ c)) := by
  simp only [dAdd]
  rw [if_pos h]
theorem frz_at {i : Nat} {ρ : Env} {m : M} (h : ρ[i]? = some (.ow m)) : frz i ρ = ρ.set i (.sh m.toD) := by unfold frz; rw [h]
theorem eFr_lst {mg : Env → MM (List D)} {ρ : Env} {ds : List D} (h : mg ρ = pure ds) (hl : ds.length ≤ 100000) : eFr (oLst mg) ρ = pure (.lst ds) := by
  have e : oLst mg ρ = pure (.lst (ds.map .leaf)) := by
    unfold oLst
    simp only [h, bind_p]
    rw [if_pos hl]
  rw [eFr_p e, toD_leafs]
theorem eTup_p {mg : Env → MM (List D)} {ρ : Env} {ds : List D} (h : mg ρ = pure ds) (hl : ds.length ≤ 100000) : eTup mg ρ = pure (.tup ds) := by
  unfold eTup
  simp only [h, bind_p]
  rw [if_pos hl]
theorem itR1_p {mg : Env → MM (List D)} {ρ : Env} {n : Nat} {z : Int} (h : mg ρ = pure [.int z]) (hz : z = (n : Int)) (hl : n ≤ 100000) : itR1 mg ρ = pure (rng 0 n) := by
  subst hz
  unfold itR1
  rw [h, bind_p]
  simp only
  rw [if_pos ⟨by omega, by omega⟩, Int.toNat_natCast]
theorem itR2_p {mg : Env → MM (List D)} {ρ : Env} {a c : Nat} (h : mg ρ = pure [.int (a : Int), .int (c : Int)]) (h1 : a ≤ 100000) (h2 : c ≤ 100000) : itR2 mg ρ = pure (rng a (c - a)) := by
  unfold itR2
  rw [h, bind_p]
  simp only
  rw [if_pos ⟨⟨by omega, by omega⟩, by omega, by omega⟩]
  congr 2
  omega
def rowM (n : Nat) (f : Nat → Int) : M := .lst ((List.range n).map fun y => .leaf (.int (f y)))
def matM (n : Nat) (f : Nat → Nat → Int) : M := .lst ((List.range n).map fun x => rowM n (f x))
def rowD (n : Nat) (f : Nat → Int) : D := .lst ((List.range n).map fun y => .int (f y))
def matD (n : Nat) (f : Nat → Nat → Int) : D := .lst ((List.range n).map fun x => rowD n (f x))
theorem toDs_map {α : Type} (f : α → M) : ∀ l : List α, Ms.toDs (l.map f) = l.map fun x => (f x).toD
  | [] => rfl
  | x :: l => by simp only [List.map_cons, Ms.toDs, toDs_map f l]
theorem rowM_toD (n : Nat) (f : Nat → Int) : (rowM n f).toD = rowD n f := by
  unfold rowM rowD
  rw [M.toD, toDs_map]
  rfl
theorem matM_toD (n : Nat) (f : Nat → Nat → Int) : (matM n f).toD = matD n f := by
  unfold matM matD
  rw [M.toD, toDs_map]
  congr 1
  exact List.map_congr_left fun x _ => rowM_toD n (f x)
def put2 (f : Nat → Nat → Int) (x y : Nat) (v : Int) : Nat → Nat → Int := fun a b => if a = x ∧ b = y then v else f a b
theorem set_range {α : Type} (n y : Nat) (g : Nat → α) (v : α) : ((List.range n).map g).set y v = (List.range n).map fun b => if b = y then v else g b := by
  apply List.ext_getElem?
  intro i
  rw [List.getElem?_set, List.getElem?_map, List.getElem?_map]
  by_cases h : i < n
  · rw [List.getElem?_range h]
    by_cases e : y = i
    · subst e
      simp [h]
    · simp [e, Ne.symm e]
  · rw [List.getElem?_eq_none (by simpa using h)]
    by_cases e : y = i
    · subst e; simp [h]
    · simp [e]
theorem mat_row {n x : Nat} {f : Nat → Nat → Int} (h : x < n) : (matM n f).at [x] = some (rowM n (f x)) := by
  unfold matM
  simp [M.at, M.kid, List.getElem?_map, List.getElem?_range h]
theorem mat_put {n x y : Nat} {f : Nat → Nat → Int} {v : Int} (h : x < n) : (matM n f).put [x] (rowM n fun b => if b = y then v else f x b) = matM n (put2 f x y v) := by
  unfold matM
  simp only [M.put, M.kid, List.getElem?_map, List.getElem?_range h, Option.map_some, M.setKid]
  rw [set_range]
  congr 1
  refine List.map_congr_left fun a _ => ?_
  by_cases e : a = x
  · subst e
    simp only [if_true]
    congr 1
    funext b
    simp [put2]
  · simp only [e, if_false]
    congr 1
    funext b
    simp [put2, e]
theorem ixN_nat {n x : Nat} (h : x < n) : ixN n (x : Int) = some x := by
  unfold ixN
  rw [if_pos (by omega), if_pos (by omega), Int.toNat_natCast]
/-- rows[x][y] = v -/
theorem set_mat {i n x y : Nat} {f : Nat → Nat → Int} {v : Int} {ρ : Env} {mx my : Env → MM D} (h : ρ[i]? = some (.ow (matM n f))) (hx : mx ρ = pure (.int x)) (hy : my ρ = pure (.int y)) (lx : x < n) (ly : y < n) :
    gSet i (lIx i lHere mx) my (.int v) ρ = pure (ρ.set i (.ow (matM n (put2 f x y v)))) := by
  have ho : ownAt i ρ = some (matM n f) := by unfold ownAt; rw [h]
  have hl : lIx i lHere mx ρ = pure [x] := by
    unfold lIx lHere
    simp only [bind_p, hx, ho]
    show (match (matM n f).at [] with | some m' => _ | none => fail) = _
    simp only [M.at]
    unfold matM
    simp only [stepIx, List.length_map, List.length_range, ixN_nat lx, M.kid, List.getElem?_map, List.getElem?_range lx, Option.map_some, Option.isSome_some, if_true, List.nil_append]
  unfold gSet
  rw [hl, bind_p, hy, bind_p]
  simp only [ho, mat_row lx]
  have hs : setM (rowM n (f x)) (.int y) (.int v) = some (rowM n fun b => if b = y then v else f x b) := by
    unfold rowM
    simp only [setM, List.length_map, List.length_range, ixN_nat ly, if_pos ly]
    rw [set_range]
    congr 2
    exact List.map_congr_left fun b _ => by split <;> rfl
  rw [hs]
  simp only
  rw [mat_put lx]
/-- reading of a frozen table -/
theorem mat_get {n x : Nat} {f : Nat → Nat → Int} (h : x < n) : dSub2 (matD n f) (.int x) = some (rowD n (f x)) := by
  unfold matD
  exact atI_at (by rw [List.getElem?_map, List.getElem?_range h]; rfl)
theorem row_get {n x : Nat} {f : Nat → Int} (h : x < n) : dSub2 (rowD n f) (.int x) = some (.int (f x)) := by
  unfold rowD
  exact atI_at (by rw [List.getElem?_map, List.getElem?_range h]; rfl)
theorem mat_len {n : Nat} {f : Nat → Nat → Int} : dLen [matD n f] = some (.int n) := by
  unfold matD
  simp [dLen]
theorem row_len {n : Nat} {f : Nat → Int} : dLen [rowD n f] = some (.int n) := by
  unfold rowD
  simp [dLen]
end DL
set_option Elab.async false
set_option linter.all false
set_option maxRecDepth 100000
set_option maxHeartbeats 4000000
namespace Lk65
open PySem L2 DL

/-! ### webs -/
abbrev Tie := Nat × Nat
def tieD (p : Tie) : D := .tup [.int p.1, .int p.2]
def tied (T : List Tie) (base : Nat → Nat → Int) : Nat → Nat → Int := fun a b => if (a, b) ∈ T ∨ (b, a) ∈ T then 1 else base a b
structure Web (n : Nat) (T : List Tie) : Prop where
  pos : 1 ≤ n
  le : n ≤ 32
  few : T.length ≤ 1000
  ok : ∀ p ∈ T, p.1 < n ∧ p.2 < n ∧ p.1 ≠ p.2
theorem tied_snoc (T : List Tie) (p : Tie) (base : Nat → Nat → Int) : put2 (put2 (tied T base) p.1 p.2 1) p.2 p.1 1 = tied (T ++ [p]) base := by
  funext a b
  simp only [put2, tied, List.mem_append, List.mem_singleton]
  obtain ⟨x, y⟩ := p
  simp only [Prod.mk.injEq]
  by_cases h1 : a = y ∧ b = x
  · simp [h1]
  · by_cases h2 : a = x ∧ b = y
    · simp [h2]
    · rw [if_neg h1, if_neg h2]
      congr 1
      rw [eq_iff_iff]
      constructor
      · rintro (h | h)
        · exact Or.inl (Or.inl h)
        · exact Or.inr (Or.inl h)
      · rintro ((h | h) | (h | h))
        · exact Or.inl h
        · exact absurd h h2
        · exact Or.inr h
        · exact absurd ⟨h.2, h.1⟩ h1
theorem take_succ' {α : Type} {l : List α} {i : Nat} {x : α} (h : l[i]? = some x) : l.take (i + 1) = l.take i ++ [x] := by
  rw [List.take_add_one, h]; rfl
theorem tied_nil (base : Nat → Nat → Int) : tied [] base = base := by funext a b; simp [tied]
/-- for x, y in ties: rows[x][y], rows[y][x] = 1, 1 -/
theorem ties_loop {n i j k N : Nat} {T : List Tie} {base : Nat → Nat → Int} (hij : i ≠ j) (hik : i ≠ k) (hjk : j ≠ k) (hi : i < N) (hj : j < N) (hk : k < N) (ok : ∀ p ∈ T, p.1 < n ∧ p.2 < n ∧ p.1 ≠ p.2) {ρ0 : DL.Env} (h0 : ρ0[k]? = some (.ow (matM n base))) (hN : ρ0.length = N) :
    ∃ ρ2, loopM (gTp 2 (gsC (gNm i) (gsC (gNm j) gsN))) (sAsgG (gTp 2 (gsC (gSet k (lIx k lHere (eVar i)) (eVar j)) (gsC (gSet k (lIx k lHere (eVar j)) (eVar i)) gsN))) (eTup (aCons (eC (.int 1)) (aCons (eC (.int 1)) aNil)))) (T.map tieD) ρ0 = pure (.next ρ2) ∧
      ρ2[k]? = some (.ow (matM n (tied T base))) ∧ ρ2.length = N ∧ ∀ q, q ≠ i → q ≠ j → q ≠ k → ρ2[q]? = ρ0[q]? := by
  have := loop_p (tgf := gTp 2 (gsC (gNm i) (gsC (gNm j) gsN))) (body := sAsgG (gTp 2 (gsC (gSet k (lIx k lHere (eVar i)) (eVar j)) (gsC (gSet k (lIx k lHere (eVar j)) (eVar i)) gsN))) (eTup (aCons (eC (.int 1)) (aCons (eC (.int 1)) aNil))))
    (fun m ρ => ρ[k]? = some (.ow (matM n (tied (T.take m) base))) ∧ ρ.length = N ∧ ∀ q, q ≠ i → q ≠ j → q ≠ k → ρ[q]? = ρ0[q]?) (T.map tieD) 0 ρ0 ?_ ⟨by rw [h0, List.take_zero, tied_nil], hN, fun _ _ _ _ => rfl⟩
  · obtain ⟨ρ2, h1, h2, h3, h4⟩ := this
    rw [Nat.zero_add, List.length_map, List.take_length] at h2
    exact ⟨ρ2, h1, h2, h3, h4⟩
  · intro m d ρ hd ⟨q1, q2, q3⟩
    rw [List.getElem?_map] at hd
    cases hp : T[m]? with
    | none => rw [hp] at hd; cases hd
    | some p =>
      rw [hp] at hd
      cases hd
      obtain ⟨o1, o2, o3⟩ := ok p (List.mem_of_getElem? hp)
      rw [Nat.zero_add] at q1 ⊢
      have g1 : ((ρ.set i (.sh (.int p.1))).set j (.sh (.int p.2)))[i]? = some (.sh (.int p.1)) := by rw [List.getElem?_set_ne (Ne.symm hij), List.getElem?_set_self (by omega)]
      have g2 : ((ρ.set i (.sh (.int p.1))).set j (.sh (.int p.2)))[j]? = some (.sh (.int p.2)) := by rw [List.getElem?_set_self (by simp; omega)]
      have g3 : ((ρ.set i (.sh (.int p.1))).set j (.sh (.int p.2)))[k]? = some (.ow (matM n (tied (T.take m) base))) := by rw [List.getElem?_set_ne hjk, List.getElem?_set_ne hik]; exact q1
      generalize hρ : (ρ.set i (.sh (.int p.1))).set j (.sh (.int p.2)) = ρ1 at g1 g2 g3
      have lρ1 : ρ1.length = N := by rw [← hρ]; simpa using q2
      have e1 := set_mat (v := 1) (mx := eVar i) (my := eVar j) g3 (by unfold eVar; rw [g1]) (by unfold eVar; rw [g2]) o1 o2
      have g3' : (ρ1.set k (.ow (matM n (put2 (tied (T.take m) base) p.1 p.2 1))))[k]? = some (.ow (matM n (put2 (tied (T.take m) base) p.1 p.2 1))) := by rw [List.getElem?_set_self (by omega)]
      have e2 := set_mat (v := 1) (mx := eVar j) (my := eVar i) g3' (by unfold eVar; rw [List.getElem?_set_ne (Ne.symm hjk), g2]) (by unfold eVar; rw [List.getElem?_set_ne (Ne.symm hik), g1]) o2 o1
      refine ⟨ρ1, (ρ1.set k (.ow (matM n (put2 (tied (T.take m) base) p.1 p.2 1)))).set k (.ow (matM n (put2 (put2 (tied (T.take m) base) p.1 p.2 1) p.2 p.1 1))), ?_, ?_, ?_, ?_, ?_⟩
      · rw [← hρ]
        rfl
      · unfold sAsgG
        show ((eTup (aCons (eC (.int 1)) (aCons (eC (.int 1)) aNil)) ρ1) >>= _) = _
        rw [show eTup (aCons (eC (.int 1)) (aCons (eC (.int 1)) aNil)) ρ1 = pure (.tup [.int 1, .int 1]) from rfl, bind_p]
        show ((gTp 2 _ (.tup [.int 1, .int 1]) ρ1) >>= _) = _
        simp only [gTp, List.length_cons, List.length_nil, if_true, gsC]
        rw [e1, bind_p, e2, bind_p]
        rfl
      · rw [List.getElem?_set_self (by simp; omega), tied_snoc, take_succ' hp]
      · simpa using lρ1
      · intro q a b c
        rw [List.getElem?_set_ne (Ne.symm c), List.getElem?_set_ne (Ne.symm c), ← hρ, List.getElem?_set_ne (Ne.symm b), List.getElem?_set_ne (Ne.symm a)]
        exact q3 q a b c
/-- [[0] * n for x in range(n)] -/
theorem zero_rows {n : Nat} {s0 : DL.Env} (hn : n ≤ 32) (h0 : s0[0]? = some (.sh (.int n))) (h2 : 2 < s0.length) : oLc (itR1 (aCons (eVar 0) aNil)) (gNm 2) tYes' (oMul (oLst (aCons (eC (.int 0)) aNil)) (eVar 0)) [2] s0 = pure (matM n fun _ _ => 0) := by
  rw [lco_all (ds := rng 0 n) (f := fun _ => rowM n fun _ => 0)]
  · unfold matM rng
    rw [List.map_map]
    rfl
  · simp [runD, sSeq, sRet, sAsg, sIf, sNext, sDrop, eVar, eC, eBin, eUn, eCall, eDef, eTup, eIf, eAnd, eOr, eNot, aNil, aCons, tBool, tAnd', tOr', tNot', tYes', gNm, gTp, gsC, gsN, oLeaf, itS, itR1, itE, itZ, ofO_s, bind_p, h0]
    omega
  · intro d hd
    refine ⟨_, rfl, ?_⟩
    unfold oMul oLst
    simp [runD, sSeq, sRet, sAsg, sIf, sNext, sDrop, eVar, eC, eBin, eUn, eCall, eDef, eTup, eIf, eAnd, eOr, eNot, aNil, aCons, tBool, tAnd', tOr', tNot', tYes', gNm, gTp, gsC, gsN, oLeaf, itS, itR1, itE, itZ, ofO_s, bind_p, wipeE, h0, leafsOf]
    rw [if_pos (by omega)]
    unfold rowM
    congr 2
    simp [List.map_const']
  · rw [rng_length]; omega
theorem e_tied_p {n : Nat} {T : List Tie} (w : Web n T) : m__law_e_tied [.int n, (.lst (T.map tieD))] = pure (matD n (tied T fun _ _ => 0)) := by
  have e1 := zero_rows (s0 := [.sh (.int n), .sh (.lst (T.map tieD)), .un, .un, .un]) w.le rfl (by simp)
  obtain ⟨ρ2, l1, l2, l3, l4⟩ := ties_loop (n := n) (i := 2) (j := 4) (k := 3) (N := 5) (T := T) (base := fun _ _ => 0) (by decide) (by decide) (by decide) (by decide) (by decide) (by decide) w.ok (ρ0 := [.sh (.int n), .sh (.lst (T.map tieD)), .un, .ow (matM n fun _ _ => 0), .un]) rfl rfl
  unfold m__law_e_tied
  simp [runD, sSeq, sRet, sAsg, sIf, sNext, sDrop, eVar, eC, eBin, eUn, eCall, eDef, eTup, eIf, eAnd, eOr, eNot, aNil, aCons, tBool, tAnd', tOr', tNot', tYes', gNm, gTp, gsC, gsN, oLeaf, itS, itR1, itE, itZ, ofO_s, bind_p, sOwn, e1, sFor, l1, sFrz, frz_at l2, l3, matM_toD]

end Lk65
set_option Elab.async false
set_option linter.all false
set_option maxRecDepth 100000
set_option maxHeartbeats 4000000
namespace DL
open PySem L2

/-! ### lists of ints compared -/
theorem toPys_ints : ∀ l : List Int, toPys (l.map D.int) = some (l.map PyData.int)
  | [] => rfl
  | x :: l => by simp only [List.map_cons, toPys, toPy, toPys_ints l]
theorem eqvAll_ints : ∀ l m : List Int, PyData.eqvAll (l.map .int) (m.map .int) = decide (l = m)
  | [], [] => rfl
  | [], _ :: _ => by simp [PyData.eqvAll]
  | _ :: _, [] => by simp [PyData.eqvAll]
  | x :: l, y :: m => by
    simp only [List.map_cons, PyData.eqvAll, eqvAll_ints l m, PyData.eqv]
    by_cases h : x = y <;> by_cases h2 : l = m <;> simp [h, h2]
theorem canLay_ints : ∀ l : List Int, PyData.canLayAll0 (l.map .int) = true
  | [] => rfl
  | x :: l => by simp [PyData.canLayAll0, PyData.canLay0, canLay_ints l]
theorem depth_ints : ∀ l : List Int, PyData.depthAll (l.map .int) = 0
  | [] => rfl
  | x :: l => by simp [PyData.depthAll, PyData.depth, depth_ints l]
theorem eqB_lst (l m : List Int) : dEqB (.lst (l.map .int)) (.lst (m.map .int)) = some (decide (l = m)) := by
  unfold dEqB
  simp [toPy, toPys_ints, SeqAt.shaped, PyData.canLay0, PyData.depth, canLay_ints, depth_ints, PyData.eqv, eqvAll_ints]
theorem eqB_tup (l m : List Int) : dEqB (.tup (l.map .int)) (.tup (m.map .int)) = some (decide (l = m)) := by
  unfold dEqB
  simp [toPy, toPys_ints, SeqAt.shaped, PyData.canLay0, PyData.depth, canLay_ints, depth_ints, PyData.eqv, eqvAll_ints]

/-! ### sorted sets -/
theorem sortSet_sub {S es : List Int} (hS : S.Pairwise (· < ·)) (h : ∀ e ∈ es, e ∈ S) : sortSet es = S.filter fun k => decide (k ∈ es) := by
  refine pw_unique pw_sortSet (hS.filter _) fun k => ?_
  rw [mem_sortSet, List.mem_filter]
  constructor
  · intro q
    exact ⟨h k q, by simpa using q⟩
  · rintro ⟨_, q⟩
    simpa using q
theorem sortSet_range {k : Nat} {es : List Int} (h : ∀ z, z ∈ es ↔ ∃ i : Nat, i < k ∧ z = (i : Int)) : sortSet es = (List.range k).map fun (i : Nat) => (i : Int) := by
  refine pw_unique pw_sortSet ?_ fun z => ?_
  · rw [List.pairwise_map]
    exact List.pairwise_lt_range.imp fun h => by omega
  · rw [mem_sortSet, h z, List.mem_map]
    constructor
    · rintro ⟨i, h1, rfl⟩
      exact ⟨i, List.mem_range.mpr h1, rfl⟩
    · rintro ⟨i, h1, rfl⟩
      exact ⟨i, List.mem_range.mp h1, rfl⟩
/-- sorted(set(xs)), frozen -/
theorem sortSet_p {me : Env → MM D} {ρ : Env} {es : List Int} (h : me ρ = pure (.lst (es.map .int))) (h1 : es.length ≤ 4000) (h2 : (sortSet es).length < 64) : eFr (oSortSet me) ρ = pure (.lst ((sortSet es).map .int)) := by
  unfold eFr oSortSet
  simp only [h, bind_p, intsD_map]
  rw [if_pos ⟨h1, h2⟩, bind_p]
  show (pure (M.toD (.lst _)) : MM D) = _
  rw [M.toD]
  congr 2
  rw [toDs_map]
  rfl

/-! ### names = {}; for item in S: names[item] = len(names) -/
theorem idx_map {S : List Int} {v : Int} (h : v ∈ S) : idx (S.map Sum.inl : List L2.Key) (.inl v) = some (S.idxOf v) := by
  induction S with
  | nil => cases h
  | cons x r ih =>
    simp only [List.map_cons, idx]
    by_cases e : x = v
    · subst e; simp [List.idxOf_cons_self]
    · have hv : v ∈ r := by
        rcases List.mem_cons.mp h with q | q
        · exact absurd q.symm e
        · exact q
      rw [if_neg (fun q => e (Sum.inl.inj q)), ih hv, List.idxOf_cons, show (x == v) = false by simpa using e]
      rfl
theorem leafsOf_map : ∀ ds : List D, leafsOf (ds.map M.leaf) = some ds
  | [] => rfl
  | d :: r => by simp [leafsOf, leafsOf_map r]
def namesM (S : List Int) : M := .dK (S.map Sum.inl) ((List.range S.length).map fun (i : Nat) => .leaf (.int i))
theorem names_loop {i j N : Nat} (hij : i ≠ j) (hi : i < N) (hj : j < N) {S : List Int} (nd : S.Nodup) (hl : S.length ≤ 1000) {ρ0 : Env} (h0 : ρ0[i]? = some (.ow (.dK [] []))) (hN : ρ0.length = N) :
    ∃ ρ2, loopM (gNm j) (sAsgG (gSet i lHere (eVar j)) (eAll (eCall dLen (aCons (eVar i) aNil)))) (S.map .int) ρ0 = pure (.next ρ2) ∧ ρ2[i]? = some (.ow (namesM S)) ∧ ρ2.length = N ∧ ∀ q, q ≠ i → q ≠ j → ρ2[q]? = ρ0[q]? := by
  have := loop_p (tgf := gNm j) (body := sAsgG (gSet i lHere (eVar j)) (eAll (eCall dLen (aCons (eVar i) aNil)))) (fun m ρ => ρ[i]? = some (.ow (namesM (S.take m))) ∧ ρ.length = N ∧ ∀ q, q ≠ i → q ≠ j → ρ[q]? = ρ0[q]?) (S.map .int) 0 ρ0 ?_ ⟨by rw [h0]; rfl, hN, fun _ _ _ => rfl⟩
  · obtain ⟨ρ2, h1, h2, h3, h4⟩ := this
    rw [Nat.zero_add, List.length_map, List.take_length] at h2
    exact ⟨ρ2, h1, h2, h3, h4⟩
  · intro m d ρ hd ⟨q1, q2, q3⟩
    rw [List.getElem?_map] at hd
    cases hp : S[m]? with
    | none => rw [hp] at hd; cases hd
    | some p =>
      rw [hp] at hd
      cases hd
      rw [Nat.zero_add] at q1 ⊢
      have hm : m < S.length := (List.getElem?_eq_some_iff.mp hp).1
      have lt : (S.take m).length = m := by rw [List.length_take]; omega
      have g1 : (ρ.set j (.sh (.int p)))[i]? = some (.ow (namesM (S.take m))) := by rw [List.getElem?_set_ne (Ne.symm hij)]; exact q1
      have g2 : (ρ.set j (.sh (.int p)))[j]? = some (.sh (.int p)) := by rw [List.getElem?_set_self (by omega)]
      have et : S.take (m + 1) = S.take m ++ [p] := by rw [List.take_add_one, hp]; rfl
      have hnot : p ∉ S.take m := by
        have q := nd.sublist (List.take_sublist (m + 1) S)
        rw [et] at q
        intro z
        exact (List.nodup_append.mp q).2.2 p z p (by simp) rfl
      refine ⟨ρ.set j (.sh (.int p)), (ρ.set j (.sh (.int p))).set i (.ow (namesM (S.take (m + 1)))), rfl, ?_, ?_, ?_, ?_⟩
      · generalize ρ.set j (.sh (.int p)) = ρ1 at g1 g2
        have el : eAll (eCall dLen (aCons (eVar i) aNil)) ρ1 = pure (.int m) := by
          unfold eAll eCall aCons eVar aNil allSh
          have : (List.map shd ρ1)[i]? = some (.sh (namesM (S.take m)).toD) := by rw [List.getElem?_map, g1]; rfl
          rw [this]
          simp only [bind_p]
          unfold namesM
          rw [M.toD, toDs_map]
          simp [dLen, ofO_s, bind_p, D.scal, Nat.le_of_lt hm]
        unfold sAsgG
        show (eAll _ ρ1 >>= _) = _
        rw [el, bind_p]
        unfold gSet lHere eVar
        rw [g2]
        simp only [bind_p]
        have ho : ownAt i ρ1 = some (namesM (S.take m)) := by unfold ownAt; rw [g1]
        rw [ho]
        have hs : setM (namesM (S.take m)) (.int p) (.int m) = some (namesM (S.take (m + 1))) := by
          unfold namesM
          have lf : leafsOf ((List.range (S.take m).length).map fun (i : Nat) => M.leaf (.int i)) = some ((List.range (S.take m).length).map fun (i : Nat) => D.int i) := by
            have := leafsOf_map ((List.range (S.take m).length).map fun (i : Nat) => D.int i)
            rw [List.map_map] at this
            exact this
          simp only [setM, keyD, lf]
          rw [if_pos (by rw [List.length_map, List.length_range, lt]; omega)]
          have hk : (Sum.inl p : L2.Key) ∉ (S.take m).map Sum.inl := by
            intro z
            obtain ⟨a, h1, h2⟩ := List.mem_map.mp z
            exact hnot (by rw [← Sum.inl.inj h2]; exact h1)
          unfold putD
          rw [if_neg hk]
          rw [et, List.map_append, List.length_append, lt]
          simp [List.range_succ, List.map_append, lt]
        simp only [M.at, hs, M.put]
        rfl
      · rw [List.getElem?_set_self (by simp; omega)]
      · simpa using q2
      · intro q a b
        rw [List.getElem?_set_ne (Ne.symm a), List.getElem?_set_ne (Ne.symm b)]
        exact q3 q a b
theorem names_at {i : Nat} {ρ : Env} {S : List Int} {v : Int} {me : Env → MM D} (h : ρ[i]? = some (.ow (namesM S))) (hv : v ∈ S) (he : me ρ = pure (.int v)) : eAt i (lIx i lHere me) ρ = pure (.int (S.idxOf v)) := by
  have hk : S.idxOf v < S.length := List.idxOf_lt_length_of_mem hv
  have ho : ownAt i ρ = some (namesM S) := by unfold ownAt; rw [h]
  have hs : stepIx (namesM S) (.int v) = some (S.idxOf v) := by
    unfold namesM
    simp only [stepIx, keyD]
    exact idx_map hv
  have hkid : (namesM S).kid (S.idxOf v) = some (.leaf (.int (S.idxOf v))) := by
    unfold namesM
    simp only [M.kid, List.getElem?_map, List.getElem?_range hk, Option.map_some]
  have hl : lIx i lHere me ρ = pure [S.idxOf v] := by
    unfold lIx lHere
    simp only [bind_p, he, ho, M.at, hs, hkid, Option.isSome_some, if_true, List.nil_append]
  unfold eAt
  rw [hl, bind_p, ho]
  simp only [Option.bind_some, M.at, hkid]
end DL
set_option Elab.async false
set_option linter.all false
set_option maxRecDepth 100000
set_option maxHeartbeats 4000000
namespace Lk65
open PySem L2 DL

/-! ### tables of kinds -/
def items (n : Nat) (f : Nat → Nat → Int) : List Int := (List.range n).flatMap fun x => (List.range n).map (f x)
theorem mem_items {n : Nat} {f : Nat → Nat → Int} {z : Int} : z ∈ items n f ↔ ∃ x y, x < n ∧ y < n ∧ z = f x y := by
  unfold items
  rw [List.mem_flatMap]
  constructor
  · rintro ⟨x, hx, h⟩
    obtain ⟨y, hy, rfl⟩ := List.mem_map.mp h
    exact ⟨x, y, List.mem_range.mp hx, List.mem_range.mp hy, rfl⟩
  · rintro ⟨x, y, hx, hy, rfl⟩
    exact ⟨x, List.mem_range.mpr hx, List.mem_map.mpr ⟨y, List.mem_range.mpr hy, rfl⟩⟩
theorem items_length (n : Nat) (f : Nat → Nat → Int) : (items n f).length = n * n := by
  unfold items
  rw [List.length_flatMap]
  simp [List.map_const', List.sum_replicate_nat]
def rowItems (d : D) : List D := match d with
  | .lst es => es
  | _ => []
/-- [e for row in rows for item in row] -/
theorem both_p {n : Nat} {f : Nat → Nat → Int} {me : DL.Env → MM D} {ρ : DL.Env} {g : D → D} (h0 : ρ[0]? = some (.sh (matD n f))) (hl : ρ.length = 3) (hn : n ≤ 32) (hv : ∀ x y, x < n → y < n → ∀ ρ2 : DL.Env, ρ2.length = 3 → ρ2[2]? = some (.sh (.int (f x y))) → me ρ2 = pure (g (.int (f x y)))) :
    eFr (oLc2 (itS (eVar 0)) (gNm 1) tYes' (itS (eVar 1)) (gNm 2) tYes' (oLeaf me) [1, 2] [2]) ρ = pure (.lst ((items n f).map fun z => g (.int z))) := by
  have h0' : (wipeE ρ [1, 2])[0]? = some (.sh (matD n f)) := by
    simp only [wipeE]
    rw [List.getElem?_set_ne (by decide), List.getElem?_set_ne (by decide)]; exact h0
  have ll : ((((List.range n).map fun x => rowD n (f x)).flatMap fun d => (rowItems d).map fun e => g e)) = (items n f).map fun z => g (.int z) := by
    unfold items
    rw [List.flatMap_map, List.map_flatMap]
    congr 1
    funext x
    unfold rowD rowItems
    simp [List.map_map, Function.comp_def]
  rw [lc2_all (ds := (List.range n).map fun x => rowD n (f x)) (g := rowItems) (f := fun _ e => g e)]
  · rw [ll]
  · unfold itS eVar
    rw [h0]; rfl
  · intro d hd
    obtain ⟨x, hx, rfl⟩ := List.mem_map.mp hd
    refine ⟨_, rfl, ?_, fun e he => ?_⟩
    · unfold itS eVar
      rw [List.getElem?_set_self (by simp [wipeE]; omega)]
      rfl
    · have he' : e ∈ (List.range n).map fun y => D.int (f x y) := he
      obtain ⟨y, hy, rfl⟩ := List.mem_map.mp he'
      refine ⟨_, rfl, hv x y (List.mem_range.mp hx) (List.mem_range.mp hy) _ (by simp [wipeE, hl]) ?_⟩
      rw [List.getElem?_set_self (by simp [wipeE]; omega)]
  · rw [ll, List.length_map, items_length]
    calc n * n ≤ 32 * 32 := Nat.mul_le_mul hn hn
      _ ≤ 100000 := by decide
theorem used_p {n : Nat} {f : Nat → Nat → Int} (hn : n ≤ 32) (hs : (sortSet (items n f)).length < 64) : m_used [matD n f] = pure (.lst ((sortSet (items n f)).map .int)) := by
  have e1 := both_p (ρ := [.sh (matD n f), .un, .un]) (g := fun d => d) (me := eVar 2) rfl rfl hn (fun x y _ _ ρ2 _ h => by unfold eVar; rw [h])
  unfold m_used
  simp [runD, sSeq, sRet, sAsg, sIf, sNext, sDrop, eVar, eC, eBin, eUn, eCall, eDef, eTup, eIf, eAnd, eOr, eNot, aNil, aCons, tBool, tAnd', tOr', tNot', tYes', gNm, gTp, gsC, gsN, oLeaf, itS, itR1, itE, itZ, ofO_s, bind_p, sortSet_p (me := eFr (oLc2 (itS (eVar 0)) (gNm 1) tYes' (itS (eVar 1)) (gNm 2) tYes' (oLeaf (eVar 2)) [1, 2] [2])) e1 (by rw [items_length]; calc n * n ≤ 32 * 32 := Nat.mul_le_mul hn hn
      _ ≤ 4000 := by decide) hs]
theorem all_true {l : List Int} {g : Int → D} (h : ∀ z ∈ l, g z = .bl true) : dAll [.lst (l.map g)] = some (.bl true) := by
  have e : l.map g = (l.map fun _ => true).map D.bl := by
    rw [List.map_map]
    exact List.map_congr_left fun z hz => h z hz
  rw [e]
  show (blsD _).bind _ = _
  rw [blsD_map]
  simp
theorem all_true' {l : List D} (h : ∀ z ∈ l, z = .bl true) : dAll [.lst l] = some (.bl true) := by
  have e : l = (l.map fun _ => true).map D.bl := by
    rw [List.map_map]
    conv => lhs; rw [← List.map_id l]
    exact List.map_congr_left fun z hz => h z hz
  rw [e]
  show (blsD _).bind _ = _
  rw [blsD_map]
  simp
theorem are_rows_p {n : Nat} {f : Nat → Nat → Int} (h1 : 1 ≤ n) (hn : n ≤ 32) (hf : ∀ x y, x < n → y < n → 0 ≤ f x y) : m_are_rows [matD n f] = pure (.bl true) := by
  have r0 : m_is_row [matD n f] = pure (.bl true) := by rw [is_row_p _ rfl]; rfl
  have l0 : dLen [matD n f] = some (.int n) := mat_len
  have e1 : eFr (oLc (itS (eVar 0)) (gNm 1) tYes' (oLeaf (eAnd (eDef 1 m_is_row (aCons (eVar 1) aNil)) (eBin dEq (eCall dLen (aCons (eVar 1) aNil)) (eCall dLen (aCons (eVar 0) aNil))))) [1]) [.sh (matD n f), .un, .un] = pure (.lst (((List.range n).map fun x => rowD n (f x)).map fun _ => .bl true)) := by
    refine lc_all rfl (fun d hd => ?_) (by simp; omega)
    obtain ⟨x, hx, rfl⟩ := List.mem_map.mp hd
    refine ⟨_, rfl, ?_⟩
    have r1 : m_is_row [rowD n (f x)] = pure (.bl true) := by rw [is_row_p _ rfl]; rfl
    have l1 : dLen [rowD n (f x)] = some (.int n) := row_len
    simp [runD, sSeq, sRet, sAsg, sIf, sNext, sDrop, eVar, eC, eBin, eUn, eCall, eDef, eTup, eIf, eAnd, eOr, eNot, aNil, aCons, tBool, tAnd', tOr', tNot', tYes', gNm, gTp, gsC, gsN, oLeaf, itS, itR1, itE, itZ, ofO_s, bind_p, wipeE, r1, l1, l0, eq_ints]
  have e2 := both_p (ρ := [.sh (matD n f), .un, .un]) (g := fun d => match d with | .int z => .bl (decide (0 ≤ z)) | _ => .non) (me := eAnd (eDef 1 m_is_integer (aCons (eVar 2) aNil)) (eBin dGe (eVar 2) (eC (.int 0)))) rfl rfl hn (fun x y _ _ ρ2 _ h => by
    have r2 : m_is_integer [.int (f x y)] = pure (.bl true) := by rw [is_integer_p _ rfl]; rfl
    simp [runD, sSeq, sRet, sAsg, sIf, sNext, sDrop, eVar, eC, eBin, eUn, eCall, eDef, eTup, eIf, eAnd, eOr, eNot, aNil, aCons, tBool, tAnd', tOr', tNot', tYes', gNm, gTp, gsC, gsN, oLeaf, itS, itR1, itE, itZ, ofO_s, bind_p, h, r2, dGe, dI2])
  unfold m_are_rows
  have a1 := all_true' (l := ((List.range n).map fun x => rowD n (f x)).map fun _ => .bl true) (by simp)
  have a2 := all_true (l := items n f) (g := fun z => match D.int z with | .int z => .bl (decide (0 ≤ z)) | _ => .non) (fun z hz => by
    obtain ⟨x, y, hx, hy, rfl⟩ := mem_items.mp hz
    simp [hf x y hx hy])
  generalize (((List.range n).map fun x => rowD n (f x)).map fun _ => D.bl true) = L1 at e1 a1
  generalize (items n f).map (fun z => match D.int z with | .int z => D.bl (decide (0 ≤ z)) | _ => .non) = L2 at e2 a2
  have h1' : (1 : Int) ≤ (n : Int) := by omega
  have hn' : (n : Int) ≤ 32 := by omega
  simp [runD, sSeq, sRet, sAsg, sIf, sNext, sDrop, eVar, eC, eBin, eUn, eCall, eDef, eTup, eIf, eAnd, eOr, eNot, aNil, aCons, tBool, tAnd', tOr', tNot', tYes', gNm, gTp, gsC, gsN, oLeaf, itS, itR1, itE, itZ, ofO_s, bind_p, r0, l0, e1, e2, a1, a2, eChain, dLe, dI2, h1', hn']
def rowT (n : Nat) (f : Nat → Int) : D := .tup ((List.range n).map fun y => .int (f y))
def matT (n : Nat) (f : Nat → Nat → Int) : D := .tup ((List.range n).map fun x => rowT n (f x))
theorem rng0 (k : Nat) : rng 0 k = ((List.range k).map fun (i : Nat) => (i : Int)).map D.int := by
  unfold rng
  rw [List.map_map]
  refine List.map_congr_left fun i _ => ?_
  simp
theorem Pairing_init_p {n k : Nat} {f : Nat → Nat → Int} (h1 : 1 ≤ n) (hn : n ≤ 32) (hf : ∀ x y, x < n → y < n → 0 ≤ f x y) (hk : sortSet (items n f) = (List.range k).map fun (i : Nat) => (i : Int)) (hk2 : k < 64) :
    m_Pairing_init [matD n f] = pure (.ins 0 ["rows", "many", "kinds"] [matT n f, .int n, .int k]) := by
  have r0 := are_rows_p h1 hn hf
  have l0 : dLen [matD n f] = some (.int n) := mat_len
  have u0 := used_p (f := f) hn (by rw [hk]; simpa using hk2)
  rw [hk] at u0
  have e1 : ∀ q, eFr (oRg1 (eCall dLen (aCons (eVar 2) aNil))) [.un, .sh (matD n f), .sh (.lst (((List.range k).map fun (i : Nat) => (i : Int)).map D.int)), q] = pure (.lst (((List.range k).map fun (i : Nat) => (i : Int)).map D.int)) := fun q => by
    have e : oRg1 (eCall dLen (aCons (eVar 2) aNil)) [.un, .sh (matD n f), .sh (.lst (((List.range k).map fun (i : Nat) => (i : Int)).map D.int)), q] = pure (.lst ((rng 0 k).map .leaf)) := by
      unfold oRg1
      simp [runD, sSeq, sRet, sAsg, sIf, sNext, sDrop, eVar, eC, eBin, eUn, eCall, eDef, eTup, eIf, eAnd, eOr, eNot, aNil, aCons, tBool, tAnd', tOr', tNot', tYes', gNm, gTp, gsC, gsN, oLeaf, itS, itR1, itE, itZ, ofO_s, bind_p, dLen]
      intro h
      omega
    rw [eFr_p e, toD_leafs, rng0]
  have e2 := eqB_lst ((List.range k).map fun (i : Nat) => (i : Int)) ((List.range k).map fun (i : Nat) => (i : Int))
  have e2' : dNe (.lst (((List.range k).map fun (i : Nat) => (i : Int)).map D.int)) (.lst (((List.range k).map fun (i : Nat) => (i : Int)).map D.int)) = some (.bl false) := by
    unfold dNe
    rw [e2]
    simp
  have l1 : dLen [.lst (((List.range k).map fun (i : Nat) => (i : Int)).map D.int)] = some (.int k) := by simp [dLen]
  generalize ((List.range k).map fun (i : Nat) => (i : Int)).map D.int = L at u0 e1 e2' l1
  have e3 : eFr (oLc (itS (eVar 1)) (gNm 3) tYes' (oLeaf (eTuple (eVar 3))) [3]) [.un, .sh (matD n f), .sh (.lst L), .un] = pure (.lst ((List.range n).map fun x => rowT n (f x))) := by
    rw [lc_all (ds := (List.range n).map fun x => rowD n (f x)) (f := fun d => .tup (rowItems d)) rfl (fun d hd => ?_) (by simp; omega), List.map_map]
    · rfl
    · obtain ⟨x, hx, rfl⟩ := List.mem_map.mp hd
      refine ⟨_, rfl, ?_⟩
      unfold eTuple eVar rowD
      rfl
  unfold m_Pairing_init
  have e4 : eTuple (eFr (oLc (itS (eVar 1)) (gNm 3) tYes' (oLeaf (eTuple (eVar 3))) [3])) [.un, .sh (matD n f), .sh (.lst L), .un] = pure (matT n f) := by
    exact eTuple_lst e3
  simp [runD, sSeq, sRet, sAsg, sIf, sNext, sDrop, eVar, eC, eBin, eUn, eCall, eDef, eTup, eIf, eAnd, eOr, eNot, aNil, aCons, tBool, tAnd', tOr', tNot', tYes', gNm, gTp, gsC, gsN, oLeaf, itS, itR1, itE, itZ, ofO_s, bind_p, runI, jNot, jAsg, jFld, jEnd, jput, r0, u0, e1, e2', l0, l1, e4]
  with_unfolding_all rfl
theorem nd_sortSet (l : List Int) : (sortSet l).Nodup := pw_sortSet.imp fun h => by omega
theorem numbered_p {n : Nat} {f : Nat → Nat → Int} (h1 : 1 ≤ n) (hn : n ≤ 32) (hs : (sortSet (items n f)).length < 64) :
    m_numbered [matD n f] = pure (.ins 0 ["rows", "many", "kinds"] [matT n fun x y => (((sortSet (items n f)).idxOf (f x y) : Nat) : Int), .int n, .int (sortSet (items n f)).length]) := by
  have u0 := used_p (f := f) hn hs
  have hmem : ∀ x y, x < n → y < n → f x y ∈ sortSet (items n f) := fun x y hx hy => mem_sortSet.mpr (mem_items.mpr ⟨x, y, hx, hy, rfl⟩)
  have nd := nd_sortSet (items n f)
  have hmem2 : ∀ z, z ∈ sortSet (items n f) → ∃ x y, x < n ∧ y < n ∧ z = f x y := fun z hz => mem_items.mp (mem_sortSet.mp hz)
  generalize sortSet (items n f) = S at *
  obtain ⟨ρ2, l1, l2, l3, l4⟩ := names_loop (i := 1) (j := 2) (N := 4) (by decide) (by decide) (by decide) nd (by omega) (ρ0 := [.sh (matD n f), .ow (.dK [] []), .un, .un]) rfl rfl
  have l5 : ρ2[0]? = some (.sh (matD n f)) := l4 0 (by decide) (by decide)
  have e1 : eFr (oLc (itS (eVar 0)) (gNm 3) tYes' (oLeaf (eFr (oLc (itS (eVar 3)) (gNm 2) tYes' (oLeaf (eAt 1 (lIx 1 lHere (eVar 2)))) [2]))) [3]) ρ2 = pure (matD n fun x y => ((S.idxOf (f x y) : Nat) : Int)) := by
    rw [lc_all (ds := (List.range n).map fun x => rowD n (f x)) (f := fun d => .lst ((rowItems d).map fun e => match e with | .int v => .int ((S.idxOf v : Nat) : Int) | _ => .non)) (by unfold itS eVar; rw [l5]; rfl) (fun d hd => ?_) (by simp; omega)]
    · unfold matD
      rw [List.map_map]
      congr 2
      refine List.map_congr_left fun x hx => ?_
      simp only [Function.comp, rowItems, rowD, List.map_map]
      rfl
    · obtain ⟨x, hx, rfl⟩ := List.mem_map.mp hd
      refine ⟨_, rfl, ?_⟩
      rw [lc_all (ds := (List.range n).map fun y => D.int (f x y)) (f := fun e => match e with | .int v => .int ((S.idxOf v : Nat) : Int) | _ => .non) ?_ (fun d hd => ?_) (by simp; omega)]
      · rfl
      · unfold itS eVar
        rw [List.getElem?_set_self (by simp [wipeE]; omega)]
        rfl
      · obtain ⟨y, hy, rfl⟩ := List.mem_map.mp hd
        refine ⟨_, rfl, ?_⟩
        refine names_at (S := S) ?_ (hmem x y (List.mem_range.mp hx) (List.mem_range.mp hy)) ?_
        · simp only [wipeE]
          rw [List.getElem?_set_ne (by decide), List.getElem?_set_ne (by decide), List.getElem?_set_ne (by decide), List.getElem?_set_ne (by decide)]
          exact l2
        · unfold eVar
          rw [List.getElem?_set_self (by simp [wipeE]; omega)]
  have p0 := Pairing_init_p (n := n) (k := S.length) (f := fun x y => ((S.idxOf (f x y) : Nat) : Int)) h1 hn (fun x y _ _ => by omega) (sortSet_range fun z => ?_) hs
  · unfold m_numbered
    simp [runD, sSeq, sRet, sAsg, sIf, sNext, sDrop, eVar, eC, eBin, eUn, eCall, eDef, eTup, eIf, eAnd, eOr, eNot, aNil, aCons, tBool, tAnd', tOr', tNot', tYes', gNm, gTp, gsC, gsN, oLeaf, itS, itR1, itE, itZ, ofO_s, bind_p, u0, sOwn, oDK, sFor, l1, e1, p0]
  · rw [mem_items]
    constructor
    · rintro ⟨x, y, hx, hy, rfl⟩
      exact ⟨_, List.idxOf_lt_length_of_mem (hmem x y hx hy), rfl⟩
    · rintro ⟨i, hi, rfl⟩
      obtain ⟨x, y, hx, hy, e⟩ := hmem2 S[i] (List.getElem_mem hi)
      refine ⟨x, y, hx, hy, ?_⟩
      rw [← e, List.Nodup.idxOf_getElem nd i hi]
end Lk65
set_option Elab.async false
set_option linter.all false
set_option maxRecDepth 100000
set_option maxHeartbeats 4000000
namespace Lk65
open PySem L2 DL

theorem is_tie_p {n : Nat} {p : Tie} (h : p.1 < n ∧ p.2 < n ∧ p.1 ≠ p.2) : m_is_tie [.int n, tieD p] = pure (.bl true) := by
  obtain ⟨x, y⟩ := p
  obtain ⟨h1, h2, h3⟩ := h
  simp only at h1 h2 h3
  have i0 := isi_tuple (tieD (x, y)) rfl
  have g0 : dSub2 (tieD (x, y)) (.int 0) = some (.int x) := rfl
  have g1 : dSub2 (tieD (x, y)) (.int 1) = some (.int y) := rfl
  have l0 : dLen [tieD (x, y)] = some (.int 2) := rfl
  have t1 : m_is_thing [.int n, .int x] = pure (.bl true) := by
    rw [is_thing_p _ _ rfl]
    simp [h1]
  have t2 : m_is_thing [.int n, .int y] = pure (.bl true) := by
    rw [is_thing_p _ _ rfl]
    simp [h2]
  have hne : ¬ ((x : Int) = (y : Int)) := by omega
  have it : isTup (tieD (x, y)) = true := rfl
  unfold m_is_tie
  simp [runD, sSeq, sRet, sAsg, sIf, sNext, sDrop, eVar, eC, eBin, eUn, eCall, eDef, eTup, eIf, eAnd, eOr, eNot, aNil, aCons, tBool, tAnd', tOr', tNot', tYes', gNm, gTp, gsC, gsN, oLeaf, itS, itR1, itE, itZ, ofO_s, bind_p, i0, g0, g1, l0, t1, t2, ne_ints, it, hne]
theorem enum_get {ds : List D} {j : Nat} {d : D} (h : (enumD 0 ds)[j]? = some d) : ∃ e, ds[j]? = some e ∧ d = .tup [.int (j : Int), e] := by
  obtain ⟨e, h1, h2⟩ := enumD_get h
  exact ⟨e, h1, by rw [h2]; simp⟩
theorem few_kinds {n : Nat} {f : Nat → Nat → Int} (h : ∀ x y, x < n → y < n → f x y = 0 ∨ f x y = 1 ∨ f x y = 2) : (sortSet (items n f)).length < 64 := by
  have : ([0, 1, 2] : List Int).Pairwise (· < ·) := by decide
  rw [sortSet_sub this fun e he => by
    obtain ⟨x, y, hx, hy, rfl⟩ := mem_items.mp he
    rcases h x y hx hy with q | q | q <;> rw [q] <;> simp]
  exact Nat.lt_of_le_of_lt (List.length_filter_le _ _) (by decide)
theorem web_rows {n : Nat} {ρ : DL.Env} (hn : n ≤ 32) (h0 : ρ[0]? = some (.sh (.int n))) (hl : ρ.length = 7) :
    oLc (itR1 (aCons (eVar 0) aNil)) (gNm 4) tYes' (oLc (itR1 (aCons (eVar 0) aNil)) (gNm 5) tYes' (oLeaf (eIf (tBool (eBin dEq (eVar 4) (eVar 5))) (eC (.int 0)) (eC (.int 2)))) [5]) [4] ρ = pure (matM n fun x y => if x = y then 0 else 2) := by
  have gr : ∀ ρ1 : DL.Env, ρ1[0]? = some (.sh (.int n)) → itR1 (aCons (eVar 0) aNil) ρ1 = pure (rng 0 n) := fun ρ1 h => by
    simp [runD, sSeq, sRet, sAsg, sIf, sNext, sDrop, eVar, eC, eBin, eUn, eCall, eDef, eTup, eIf, eAnd, eOr, eNot, aNil, aCons, tBool, tAnd', tOr', tNot', tYes', gNm, gTp, gsC, gsN, oLeaf, itS, itR1, itE, itZ, ofO_s, bind_p, h]
    omega
  rw [lco_all (ds := rng 0 n) (f := fun d => match d with | .int x => rowM n fun y => if x = (y : Int) then 0 else 2 | _ => .leaf .non) (gr ρ h0) (fun d hd => ?_) (by rw [rng_length]; omega)]
  · unfold matM rng
    rw [List.map_map]
    congr 2
    refine List.map_congr_left fun x _ => ?_
    simp only [Function.comp]
    congr 1
    funext y
    by_cases e : x = y
    · subst e; simp
    · rw [if_neg (by omega), if_neg e]
  · unfold rng at hd
    obtain ⟨x, hx, rfl⟩ := List.mem_map.mp hd
    refine ⟨_, rfl, ?_⟩
    rw [lco_all (ds := rng 0 n) (f := fun e => match e with | .int y => .leaf (.int (if (0 : Int) + x = y then 0 else 2)) | _ => .leaf .non) (gr _ ?_) (fun d hd => ?_) (by rw [rng_length]; omega)]
    · unfold rng rowM
      rw [List.map_map]
      congr 2
      refine List.map_congr_left fun y _ => ?_
      simp
    · simp only [wipeE]
      rw [List.getElem?_set_ne (by decide), List.getElem?_set_ne (by decide)]
      exact h0
    · unfold rng at hd
      obtain ⟨y, hy, rfl⟩ := List.mem_map.mp hd
      refine ⟨_, rfl, ?_⟩
      have a1 : ((((ρ.set 4 .un).set 4 (.sh (.int (0 + (x : Int))))).set 5 .un).set 5 (.sh (.int (0 + (y : Int)))))[4]? = some (.sh (.int (0 + (x : Int)))) := by
        rw [List.getElem?_set_ne (by decide), List.getElem?_set_ne (by decide), List.getElem?_set_self (by simp; omega)]
      have a2 : ((((ρ.set 4 .un).set 4 (.sh (.int (0 + (x : Int))))).set 5 .un).set 5 (.sh (.int (0 + (y : Int)))))[5]? = some (.sh (.int (0 + (y : Int)))) := by
        rw [List.getElem?_set_self (by simp; omega)]
      simp only [wipeE]
      generalize ((((ρ.set 4 .un).set 4 (.sh (.int (0 + (x : Int))))).set 5 .un).set 5 (.sh (.int (0 + (y : Int))))) = ρ1 at a1 a2
      unfold oLeaf
      by_cases c : x = y
      · subst c
        simp [runD, sSeq, sRet, sAsg, sIf, sNext, sDrop, eVar, eC, eBin, eUn, eCall, eDef, eTup, eIf, eAnd, eOr, eNot, aNil, aCons, tBool, tAnd', tOr', tNot', tYes', gNm, gTp, gsC, gsN, oLeaf, itS, itR1, itE, itZ, ofO_s, bind_p, a1, a2, eq_ints]
      · have c' : ¬ ((x : Int) = (y : Int)) := by omega
        simp [runD, sSeq, sRet, sAsg, sIf, sNext, sDrop, eVar, eC, eBin, eUn, eCall, eDef, eTup, eIf, eAnd, eOr, eNot, aNil, aCons, tBool, tAnd', tOr', tNot', tYes', gNm, gTp, gsC, gsN, oLeaf, itS, itR1, itE, itZ, ofO_s, bind_p, a1, a2, eq_ints, c']
theorem of_web_p {n : Nat} {T : List Tie} (w : Web n T) : ∃ d, m_of_web [.int n, .lst (T.map tieD)] = pure d := by
  have h1' : (1 : Int) ≤ (n : Int) := by have := w.pos; omega
  have hn' : (n : Int) ≤ 32 := by have := w.le; omega
  have i0 : m_is_integer [.int n] = pure (.bl true) := is_integer_p _ rfl
  have r0 : m_is_row [.lst (T.map tieD)] = pure (.bl true) := is_row_p _ rfl
  have l1 := loop_p (tgf := gTp 2 (gsC (gNm 2) (gsC (gNm 3) gsN))) (body := sIf (tNot' (tBool (eDef 2 m_is_tie (aCons (eVar 0) (aCons (eVar 3) aNil))))) sNever sNext)
    (fun _ ρ => ρ[0]? = some (.sh (.int n)) ∧ ρ[1]? = some (.sh (.lst (T.map tieD))) ∧ ρ.length = 7) (enumD 0 (T.map tieD)) 0 [.sh (.int n), .sh (.lst (T.map tieD)), .un, .un, .un, .un, .un] (fun j d ρ hd ⟨q1, q2, q3⟩ => by
      obtain ⟨e, he, rfl⟩ := enum_get hd
      rw [List.getElem?_map] at he
      cases hp : T[j]? with
      | none => rw [hp] at he; cases he
      | some p =>
        rw [hp] at he
        cases he
        have t := is_tie_p (w.ok p (List.mem_of_getElem? hp))
        refine ⟨_, (ρ.set 2 (.sh (.int j))).set 3 (.sh (tieD p)), rfl, ?_, ?_, ?_, ?_⟩
        · have a0 : ((ρ.set 2 (.sh (.int j))).set 3 (.sh (tieD p)))[0]? = some (.sh (.int n)) := by rw [List.getElem?_set_ne (by decide), List.getElem?_set_ne (by decide)]; exact q1
          have a3 : ((ρ.set 2 (.sh (.int j))).set 3 (.sh (tieD p)))[3]? = some (.sh (tieD p)) := by rw [List.getElem?_set_self (by simp; omega)]
          generalize (ρ.set 2 (.sh (.int j))).set 3 (.sh (tieD p)) = ρ1 at a0 a3
          simp [runD, sSeq, sRet, sAsg, sIf, sNext, sDrop, eVar, eC, eBin, eUn, eCall, eDef, eTup, eIf, eAnd, eOr, eNot, aNil, aCons, tBool, tAnd', tOr', tNot', tYes', gNm, gTp, gsC, gsN, oLeaf, itS, itR1, itE, itZ, ofO_s, bind_p, a0, a3, t]
        · rw [List.getElem?_set_ne (by decide), List.getElem?_set_ne (by decide)]; exact q1
        · rw [List.getElem?_set_ne (by decide), List.getElem?_set_ne (by decide)]; exact q2
        · simpa using q3) ⟨rfl, rfl, rfl⟩
  obtain ⟨ρ2, l1, b0, b1, bl⟩ := l1
  have e1 := web_rows w.le b0 bl
  obtain ⟨ρ3, l2, c6, cl, cq⟩ := ties_loop (n := n) (i := 4) (j := 5) (k := 6) (N := 7) (T := T) (base := fun x y => if x = y then 0 else 2) (by decide) (by decide) (by decide) (by decide) (by decide) (by decide) w.ok (ρ0 := ρ2.set 6 (.ow (matM n fun x y => if x = y then 0 else 2))) (by rw [List.getElem?_set_self (by omega)]) (by simpa using bl)
  have p0 := numbered_p (n := n) (f := tied T fun x y => if x = y then 0 else 2) w.pos w.le (few_kinds fun x y _ _ => by
    unfold tied
    split
    · exact Or.inr (Or.inl rfl)
    · show (if x = y then (0 : Int) else 2) = 0 ∨ (if x = y then (0 : Int) else 2) = 1 ∨ (if x = y then (0 : Int) else 2) = 2
      split
      · exact Or.inl rfl
      · exact Or.inr (Or.inr rfl))
  have c6' : (ρ3.set 6 (.sh (matD n (tied T fun x y => if x = y then 0 else 2))))[6]? = some (.sh (matD n (tied T fun x y => if x = y then 0 else 2))) := by rw [List.getElem?_set_self (by omega)]
  have b1' : (ρ2.set 6 (.ow (matM n fun x y => if x = y then 0 else 2)))[1]? = some (.sh (.lst (T.map tieD))) := by rw [List.getElem?_set_ne (by decide)]; exact b1
  refine ⟨.ins 0 ["rows", "many", "kinds"] [matT n fun x y => (((sortSet (items n (tied T fun x y => if x = y then 0 else 2))).idxOf (tied T (fun x y => if x = y then 0 else 2) x y) : Nat) : Int), .int n, .int (sortSet (items n (tied T fun x y => if x = y then 0 else 2))).length], ?_⟩
  unfold m_of_web
  simp [runD, sSeq, sRet, sAsg, sIf, sNext, sDrop, eVar, eC, eBin, eUn, eCall, eDef, eTup, eIf, eAnd, eOr, eNot, aNil, aCons, tBool, tAnd', tOr', tNot', tYes', gNm, gTp, gsC, gsN, oLeaf, itS, itR1, itE, itZ, ofO_s, bind_p, eChain, dLe, dI2, h1', hn', i0, r0, sFor, l1, sOwn, e1, b1, l2, sFrz, frz_at c6, matM_toD, cl, p0]
theorem tie_rows_p {n : Nat} {T : List Tie} (w : Web n T) : m_tie_rows [.int n, .lst (T.map tieD)] = pure (matD n (tied T fun _ _ => 0)) := by
  obtain ⟨d, hd⟩ := of_web_p w
  have e1 := zero_rows (s0 := [.sh (.int n), .sh (.lst (T.map tieD)), .un, .un, .un]) w.le rfl (by simp)
  obtain ⟨ρ2, l1, l2, l3, l4⟩ := ties_loop (n := n) (i := 2) (j := 4) (k := 3) (N := 5) (T := T) (base := fun _ _ => 0) (by decide) (by decide) (by decide) (by decide) (by decide) (by decide) w.ok (ρ0 := [.sh (.int n), .sh (.lst (T.map tieD)), .un, .ow (matM n fun _ _ => 0), .un]) rfl rfl
  unfold m_tie_rows
  simp [runD, sSeq, sRet, sAsg, sIf, sNext, sDrop, eVar, eC, eBin, eUn, eCall, eDef, eTup, eIf, eAnd, eOr, eNot, aNil, aCons, tBool, tAnd', tOr', tNot', tYes', gNm, gTp, gsC, gsN, oLeaf, itS, itR1, itE, itZ, ofO_s, bind_p, hd, sOwn, e1, sFor, l1, sFrz, frz_at l2, l3, matM_toD]
end Lk65
set_option Elab.async false
set_option linter.all false
set_option maxRecDepth 100000
set_option maxHeartbeats 4000000
namespace Lk65
open PySem L2 DL

/-! ### numbers of things tied to both -/
def cnt (a : Nat → Nat → Int) (n : Nat) (p : Tie) : Nat := ((List.range n).filter fun z => decide (a p.1 z = 1) && decide (a p.2 z = 1)).length
def srt (a : Nat → Nat → Int) (p : Tie) : Int := if p.1 = p.2 then 0 else 2 - a p.1 p.2
structure Adj (n : Nat) (a : Nat → Nat → Int) : Prop where
  pos : 1 ≤ n
  le : n ≤ 32
  bit : ∀ x y, a x y = 0 ∨ a x y = 1
theorem Web.adj {n : Nat} {T : List Tie} (w : Web n T) : Adj n (tied T fun _ _ => 0) := ⟨w.pos, w.le, fun x y => by
  unfold tied
  split
  · exact Or.inr rfl
  · exact Or.inl rfl⟩
theorem sum_bits (a b : Nat → Int) (ha : ∀ z, a z = 0 ∨ a z = 1) (hb : ∀ z, b z = 0 ∨ b z = 1) : ∀ l : List Nat, (l.map fun z => a z * b z).sum = ((l.filter fun z => decide (a z = 1) && decide (b z = 1)).length : Int)
  | [] => rfl
  | z :: l => by
    rw [List.map_cons, List.sum_cons, sum_bits a b ha hb l, List.filter_cons]
    rcases ha z with h1 | h1 <;> rcases hb z with h2 | h2 <;> simp [h1, h2] <;> omega
theorem zip_rows (n : Nat) (f g : Nat → Int) : zipD ((List.range n).map fun y => D.int (f y)) ((List.range n).map fun y => D.int (g y)) = (List.range n).map fun y => D.tup [.int (f y), .int (g y)] := by
  generalize List.range n = l
  induction l with
  | nil => rfl
  | cons x l ih => simp only [List.map_cons, zipD, ih]
theorem pair_get (p : Tie) : dSub2 (tieD p) (.int 0) = some (.int p.1) ∧ dSub2 (tieD p) (.int 1) = some (.int p.2) := ⟨rfl, rfl⟩
theorem both_tied_p {n : Nat} {a : Nat → Nat → Int} (A : Adj n a) {p : Tie} (h1 : p.1 < n) (h2 : p.2 < n) : m_both_tied [matD n a, tieD p] = pure (.int (cnt a n p)) := by
  have g0 := (pair_get p).1
  have g1 := (pair_get p).2
  have r0 : dSub2 (matD n a) (.int p.1) = some (rowD n (a p.1)) := mat_get h1
  have r1 : dSub2 (matD n a) (.int p.2) = some (rowD n (a p.2)) := mat_get h2
  have it : itZ (aCons (eBin dSub2 (eVar 0) (eBin dSub2 (eVar 1) (eC (.int 0)))) (aCons (eBin dSub2 (eVar 0) (eBin dSub2 (eVar 1) (eC (.int 1)))) aNil)) [.sh (matD n a), .sh (tieD p), .un, .un] = pure ((List.range n).map fun y => D.tup [.int (a p.1 y), .int (a p.2 y)]) := by
    have z := zip_rows n (a p.1) (a p.2)
    unfold rowD at r0 r1
    simp [runD, sSeq, sRet, sAsg, sIf, sNext, sDrop, eVar, eC, eBin, eUn, eCall, eDef, eTup, eIf, eAnd, eOr, eNot, aNil, aCons, tBool, tAnd', tOr', tNot', tYes', gNm, gTp, gsC, gsN, oLeaf, itS, itR1, itE, itZ, ofO_s, bind_p, g0, g1, r0, r1, z]
  have e1 := lc_all (tgf := gTp 2 (gsC (gNm 2) (gsC (gNm 3) gsN))) (me := eBin dMul (eVar 2) (eVar 3)) (vs := [2, 3]) (f := fun d => match d with | .tup [.int x, .int y] => .int (x * y) | _ => .non) it (fun d hd => by
    obtain ⟨y, hy, rfl⟩ := List.mem_map.mp hd
    refine ⟨_, rfl, ?_⟩
    have m0 : dMul (.int (a p.1 y)) (.int (a p.2 y)) = some (.int (a p.1 y * a p.2 y)) := dMul_small (by rcases A.bit p.1 y with q | q <;> rw [q] <;> decide) (by rcases A.bit p.2 y with q | q <;> rw [q] <;> decide)
    simp [runD, sSeq, sRet, sAsg, sIf, sNext, sDrop, eVar, eC, eBin, eUn, eCall, eDef, eTup, eIf, eAnd, eOr, eNot, aNil, aCons, tBool, tAnd', tOr', tNot', tYes', gNm, gTp, gsC, gsN, oLeaf, itS, itR1, itE, itZ, ofO_s, bind_p, wipeE, m0]) (by have := A.le; simp; omega)
  rw [List.map_map] at e1
  have e2 : dSum [.lst ((List.range n).map ((fun d => match d with | .tup [.int x, .int y] => D.int (x * y) | _ => .non) ∘ fun y => D.tup [.int (a p.1 y), .int (a p.2 y)]))] = some (.int (cnt a n p)) := by
    have := sum_bits (a p.1) (a p.2) (A.bit p.1) (A.bit p.2) (List.range n)
    show (intsD _).bind _ = _
    rw [show ((List.range n).map ((fun d => match d with | .tup [.int x, .int y] => D.int (x * y) | _ => .non) ∘ fun y => D.tup [.int (a p.1 y), .int (a p.2 y)])) = ((List.range n).map fun z => a p.1 z * a p.2 z).map D.int by rw [List.map_map]; rfl, intsD_map]
    show some (D.int (List.sum _)) = _
    rw [this]
    rfl
  generalize (List.range n).map ((fun d => match d with | .tup [.int x, .int y] => D.int (x * y) | _ => .non) ∘ fun y => D.tup [.int (a p.1 y), .int (a p.2 y)]) = L at e1 e2
  unfold m_both_tied
  simp [runD, sSeq, sRet, sAsg, sIf, sNext, sDrop, eVar, eC, eBin, eUn, eCall, eDef, eTup, eIf, eAnd, eOr, eNot, aNil, aCons, tBool, tAnd', tOr', tNot', tYes', gNm, gTp, gsC, gsN, oLeaf, itS, itR1, itE, itZ, ofO_s, bind_p, e1, e2]
theorem pair_sort_p {n : Nat} {a : Nat → Nat → Int} {p : Tie} (h1 : p.1 < n) (h2 : p.2 < n) : m_pair_sort [matD n a, tieD p] = pure (.int (srt a p)) := by
  have g0 := (pair_get p).1
  have g1 := (pair_get p).2
  have r0 : dSub2 (matD n a) (.int p.1) = some (rowD n (a p.1)) := mat_get h1
  have r1 : dSub2 (rowD n (a p.1)) (.int p.2) = some (.int (a p.1 p.2)) := row_get h2
  unfold m_pair_sort
  by_cases c : p.1 = p.2
  · have c' : (p.1 : Int) = (p.2 : Int) := by omega
    simp [runD, sSeq, sRet, sAsg, sIf, sNext, sDrop, eVar, eC, eBin, eUn, eCall, eDef, eTup, eIf, eAnd, eOr, eNot, aNil, aCons, tBool, tAnd', tOr', tNot', tYes', gNm, gTp, gsC, gsN, oLeaf, itS, itR1, itE, itZ, ofO_s, bind_p, g0, g1, r0, r1, eq_ints, c', srt, c]
  · have c' : ¬ ((p.1 : Int) = (p.2 : Int)) := by omega
    simp [runD, sSeq, sRet, sAsg, sIf, sNext, sDrop, eVar, eC, eBin, eUn, eCall, eDef, eTup, eIf, eAnd, eOr, eNot, aNil, aCons, tBool, tAnd', tOr', tNot', tYes', gNm, gTp, gsC, gsN, oLeaf, itS, itR1, itE, itZ, ofO_s, bind_p, g0, g1, r0, r1, eq_ints, c', srt, c, dSub, dI2]
theorem e_both_p {n : Nat} {a : Nat → Nat → Int} (A : Adj n a) {p : Tie} (h1 : p.1 < n) (h2 : p.2 < n) : m__law_e_both [matD n a, .int p.1, .int p.2] = pure (.int (cnt a n p)) := by
  have r0 : dSub2 (matD n a) (.int p.1) = some (rowD n (a p.1)) := mat_get h1
  have r1 : dSub2 (matD n a) (.int p.2) = some (rowD n (a p.2)) := mat_get h2
  have l0 : dLen [matD n a] = some (.int n) := mat_len
  have it : itR1 (aCons (eCall dLen (aCons (eVar 0) aNil)) aNil) [.sh (matD n a), .sh (.int p.1), .sh (.int p.2), .un] = pure (rng 0 n) := by
    have := A.le
    simp [runD, sSeq, sRet, sAsg, sIf, sNext, sDrop, eVar, eC, eBin, eUn, eCall, eDef, eTup, eIf, eAnd, eOr, eNot, aNil, aCons, tBool, tAnd', tOr', tNot', tYes', gNm, gTp, gsC, gsN, oLeaf, itS, itR1, itE, itZ, ofO_s, bind_p, l0]
    omega
  have e1 := lc_p (tgf := gNm 3) (mt := tAnd' (tBool (eBin dEq (eBin dSub2 (eBin dSub2 (eVar 0) (eVar 1)) (eVar 3)) (eC (.int 1)))) (tBool (eBin dEq (eBin dSub2 (eBin dSub2 (eVar 0) (eVar 2)) (eVar 3)) (eC (.int 1))))) (mo := oLeaf (eVar 3)) (vs := [3])
    (c := fun d => match d with | .int z => decide (a p.1 z.toNat = 1) && decide (a p.2 z.toNat = 1) | _ => false) (f := fun d => d) it (fun d hd => by
    unfold rng at hd
    obtain ⟨z, hz, rfl⟩ := List.mem_map.mp hd
    have hz' := List.mem_range.mp hz
    have s0 : dSub2 (rowD n (a p.1)) (.int ((0 : Int) + z)) = some (.int (a p.1 z)) := by rw [Int.zero_add]; exact row_get hz'
    have s1 : dSub2 (rowD n (a p.2)) (.int ((0 : Int) + z)) = some (.int (a p.2 z)) := by rw [Int.zero_add]; exact row_get hz'
    refine ⟨_, rfl, ?_, fun _ => ?_⟩
    · simp only [wipeE, List.set_cons_succ, List.set_cons_zero]
      generalize hzz : (0 : Int) + (z : Int) = zz at s0 s1
      have hzt : zz.toNat = z := by omega
      rcases A.bit p.1 z with q | q <;> rcases A.bit p.2 z with q' | q' <;> simp [runD, sSeq, sRet, sAsg, sIf, sNext, sDrop, eVar, eC, eBin, eUn, eCall, eDef, eTup, eIf, eAnd, eOr, eNot, aNil, aCons, tBool, tAnd', tOr', tNot', tYes', gNm, gTp, gsC, gsN, oLeaf, itS, itR1, itE, itZ, ofO_s, bind_p, r0, r1, s0, s1, eq_ints, q, q', hzt]
    · simp [runD, sSeq, sRet, sAsg, sIf, sNext, sDrop, eVar, eC, eBin, eUn, eCall, eDef, eTup, eIf, eAnd, eOr, eNot, aNil, aCons, tBool, tAnd', tOr', tNot', tYes', gNm, gTp, gsC, gsN, oLeaf, itS, itR1, itE, itZ, ofO_s, bind_p, wipeE]) (by have := A.le; rw [rng_length]; omega)
  have e2 : dLen [.lst (((rng 0 n).filter fun d => match d with | .int z => decide (a p.1 z.toNat = 1) && decide (a p.2 z.toNat = 1) | _ => false).map fun d => d)] = some (.int (cnt a n p)) := by
    show some (D.int (List.length _)) = _
    rw [List.length_map]
    unfold rng cnt
    rw [List.filter_map, List.length_map]
    congr 4
    refine List.filter_congr fun z _ => ?_
    simp
  generalize (((rng 0 n).filter fun d => match d with | .int z => decide (a p.1 z.toNat = 1) && decide (a p.2 z.toNat = 1) | _ => false).map fun d => d) = L at e1 e2
  unfold m__law_e_both
  simp [runD, sSeq, sRet, sAsg, sIf, sNext, sDrop, eVar, eC, eBin, eUn, eCall, eDef, eTup, eIf, eAnd, eOr, eNot, aNil, aCons, tBool, tAnd', tOr', tNot', tYes', gNm, gTp, gsC, gsN, oLeaf, itS, itR1, itE, itZ, ofO_s, bind_p, e1, e2]
end Lk65
set_option Elab.async false
set_option linter.all false
set_option maxRecDepth 100000
set_option maxHeartbeats 4000000
namespace DL
open PySem L2

/-! ### one step after the other -/
section
variable {m1 m2 : Env → MM Out} {me : Env → MM D} {mo : Env → MM M} {mt : Env → MM Bool} {ρ ρ1 ρ2 : Env} {d : D} {ds : List D} {i : Nat} {m : M} {o : Out} {tgf : D → Env → MM Env} {it : Env → MM (List D)}
theorem seq_next (h : m1 ρ = pure (.next ρ1)) : sSeq m1 m2 ρ = m2 ρ1 := by unfold sSeq; rw [h]; rfl
theorem seq_ret (h : m1 ρ = pure (.ret d)) : sSeq m1 m2 ρ = pure (.ret d) := by unfold sSeq; rw [h]; rfl
theorem asg_p (h : me ρ = pure d) : sAsg i me ρ = pure (.next (ρ.set i (.sh d))) := by unfold sAsg; rw [h]; rfl
theorem own_p (h : mo ρ = pure m) : sOwn i mo ρ = pure (.next (ρ.set i (.ow m))) := by unfold sOwn; rw [h]; rfl
theorem ret_p (h : me ρ = pure d) : sRet me ρ = pure (.ret d) := by unfold sRet; rw [h]; rfl
theorem drop_p (h : me ρ = pure d) : sDrop me ρ = pure (.next ρ) := by unfold sDrop; rw [h]; rfl
theorem sif_t (h : mt ρ = pure true) : sIf mt m1 m2 ρ = m1 ρ := by unfold sIf; rw [h]; rfl
theorem sif_f (h : mt ρ = pure false) : sIf mt m1 m2 ρ = m2 ρ := by unfold sIf; rw [h]; rfl
theorem for_p (h : it ρ = pure ds) : sFor it tgf m1 ρ = loopM tgf m1 ds ρ := by unfold sFor; rw [h]; rfl
theorem loop_nil : loopM tgf m1 [] ρ = pure (.next ρ) := rfl
theorem loop_next (h1 : tgf d ρ = pure ρ1) (h2 : m1 ρ1 = pure (.next ρ2)) : loopM tgf m1 (d :: ds) ρ = loopM tgf m1 ds ρ2 := by
  rw [loopM, h1, bind_p, h2]; rfl
theorem loop_ret {e : D} (h1 : tgf d ρ = pure ρ1) (h2 : m1 ρ1 = pure (.ret e)) : loopM tgf m1 (d :: ds) ρ = pure (.ret e) := by
  rw [loopM, h1, bind_p, h2]; rfl
theorem run_ret {N : Nat} (h : m1 (ds.map Sl.sh ++ List.replicate (N - ds.length) Sl.un) = pure (.ret d)) : runD N m1 ds = pure d := by unfold runD; rw [h]; rfl
theorem run_next {N : Nat} (h : m1 (ds.map Sl.sh ++ List.replicate (N - ds.length) Sl.un) = pure (.next ρ)) : runD N m1 ds = pure .non := by unfold runD; rw [h]; rfl
theorem var_p (h : ρ[i]? = some (.sh d)) : eVar i ρ = pure d := by unfold eVar; rw [h]
theorem bool_p {c : Bool} (h : me ρ = pure (.bl c)) : tBool me ρ = pure c := by unfold tBool; rw [h]; rfl
theorem gnm_p : gNm i d ρ = pure (ρ.set i (.sh d)) := rfl
end
end DL
set_option Elab.async false
set_option linter.all false
set_option maxRecDepth 100000
set_option maxHeartbeats 4000000
namespace Lk65
open PySem L2 DL

/-! ### kept, and instances -/
theorem kept_flat {j : Nat} {d : D} (h : isRow d = false) (hp : plainD d = true) : m_kept (j + 1) [d] = pure d := by
  have r0 : m_is_row [d] = pure (.bl false) := by rw [is_row_p d hp, h]
  unfold m_kept
  simp [runD, sSeq, sRet, sAsg, sIf, sNext, sDrop, eVar, eC, eBin, eUn, eCall, eDef, eTup, eIf, eAnd, eOr, eNot, aNil, aCons, tBool, tAnd', tOr', tNot', tYes', gNm, gTp, gsC, gsN, oLeaf, itS, itR1, itE, itZ, ofO_s, bind_p, r0]
theorem kept_tup {j : Nat} {ds : List D} (h : ∀ d ∈ ds, isRow d = false ∧ plainD d = true) (hl : ds.length ≤ 100000) : m_kept (j + 2) [.tup ds] = pure (.tup ds) := by
  have r0 : m_is_row [.tup ds] = pure (.bl true) := is_row_p _ rfl
  have e1 := lc_all (tgf := gNm 1) (me := eDef 1 (m_kept (j + 1)) (aCons (eVar 1) aNil)) (vs := [1]) (ρ := [.sh (.tup ds), .un]) (ds := ds) (f := fun d => d) (it := itS (eVar 0)) rfl (fun d hd => by
    refine ⟨_, rfl, ?_⟩
    have := kept_flat (j := j) (h d hd).1 (h d hd).2
    simp [runD, sSeq, sRet, sAsg, sIf, sNext, sDrop, eVar, eC, eBin, eUn, eCall, eDef, eTup, eIf, eAnd, eOr, eNot, aNil, aCons, tBool, tAnd', tOr', tNot', tYes', gNm, gTp, gsC, gsN, oLeaf, itS, itR1, itE, itZ, ofO_s, bind_p, wipeE, this]) hl
  rw [List.map_id'] at e1
  have e2 := eTuple_lst e1
  rw [show m_kept (j + 2) = runD 2 ((sRet (eIf (tBool (eDef 1 m_is_row (aCons (eVar 0) aNil))) (eTuple (eFr (oLc (itS (eVar 0)) (gNm 1) tYes' (oLeaf (eDef 1 (m_kept (j + 1)) (aCons (eVar 1) aNil))) [1]))) (eVar 0)))) from rfl]
  simp [runD, sSeq, sRet, sAsg, sIf, sNext, sDrop, eVar, eC, eBin, eUn, eCall, eDef, eTup, eIf, eAnd, eOr, eNot, aNil, aCons, tBool, tAnd', tOr', tNot', tYes', gNm, gTp, gsC, gsN, oLeaf, itS, itR1, itE, itZ, ofO_s, bind_p, r0, e2]
theorem kept_lst {j : Nat} {ds : List D} (h : ∀ d ∈ ds, isRow d = false ∧ plainD d = true) (hl : ds.length ≤ 100000) : m_kept (j + 2) [.lst ds] = pure (.tup ds) := by
  have r0 : m_is_row [.lst ds] = pure (.bl true) := is_row_p _ rfl
  have e1 := lc_all (tgf := gNm 1) (me := eDef 1 (m_kept (j + 1)) (aCons (eVar 1) aNil)) (vs := [1]) (ρ := [.sh (.lst ds), .un]) (ds := ds) (f := fun d => d) (it := itS (eVar 0)) rfl (fun d hd => by
    refine ⟨_, rfl, ?_⟩
    have := kept_flat (j := j) (h d hd).1 (h d hd).2
    simp [runD, sSeq, sRet, sAsg, sIf, sNext, sDrop, eVar, eC, eBin, eUn, eCall, eDef, eTup, eIf, eAnd, eOr, eNot, aNil, aCons, tBool, tAnd', tOr', tNot', tYes', gNm, gTp, gsC, gsN, oLeaf, itS, itR1, itE, itZ, ofO_s, bind_p, wipeE, this]) hl
  rw [List.map_id'] at e1
  have e2 := eTuple_lst e1
  rw [show m_kept (j + 2) = runD 2 ((sRet (eIf (tBool (eDef 1 m_is_row (aCons (eVar 0) aNil))) (eTuple (eFr (oLc (itS (eVar 0)) (gNm 1) tYes' (oLeaf (eDef 1 (m_kept (j + 1)) (aCons (eVar 1) aNil))) [1]))) (eVar 0)))) from rfl]
  simp [runD, sSeq, sRet, sAsg, sIf, sNext, sDrop, eVar, eC, eBin, eUn, eCall, eDef, eTup, eIf, eAnd, eOr, eNot, aNil, aCons, tBool, tAnd', tOr', tNot', tYes', gNm, gTp, gsC, gsN, oLeaf, itS, itR1, itE, itZ, ofO_s, bind_p, r0, e2]
def strongD (k l m : D) : D := .ins 1 ["k", "l", "m"] [k, l, m]
def notD (o p : D) : D := .ins 2 ["one", "other"] [o, p]
theorem Strong_init_p (k l m : D) : m_Strong_init [k, l, m] = pure (strongD k l m) := by
  unfold m_Strong_init
  simp [runD, sSeq, sRet, sAsg, sIf, sNext, sDrop, eVar, eC, eBin, eUn, eCall, eDef, eTup, eIf, eAnd, eOr, eNot, aNil, aCons, tBool, tAnd', tOr', tNot', tYes', gNm, gTp, gsC, gsN, oLeaf, itS, itR1, itE, itZ, ofO_s, bind_p, runI, jFld, jEnd, jput]
  with_unfolding_all rfl
theorem NotStrong_init_p {o p o' p' : D} (h1 : m_kept 3 [o] = pure o') (h2 : m_kept 3 [p] = pure p') : m_NotStrong_init [o, p] = pure (notD o' p') := by
  unfold m_NotStrong_init
  simp [runD, sSeq, sRet, sAsg, sIf, sNext, sDrop, eVar, eC, eBin, eUn, eCall, eDef, eTup, eIf, eAnd, eOr, eNot, aNil, aCons, tBool, tAnd', tOr', tNot', tYes', gNm, gTp, gsC, gsN, oLeaf, itS, itR1, itE, itZ, ofO_s, bind_p, runI, jFld, jEnd, jput, h1, h2]
  with_unfolding_all rfl
theorem kept_tie (p : Tie) : m_kept 3 [tieD p] = pure (tieD p) := kept_tup (by intro d hd; simp at hd; rcases hd with rfl | rfl <;> exact ⟨rfl, rfl⟩) (by simp)

/-! ### all pairs -/
def pairs (n : Nat) : List Tie := (List.range n).flatMap fun x => (List.range n).map fun y => (x, y)
theorem mem_pairs {n : Nat} {p : Tie} : p ∈ pairs n ↔ p.1 < n ∧ p.2 < n := by
  unfold pairs
  rw [List.mem_flatMap]
  constructor
  · rintro ⟨x, hx, h⟩
    obtain ⟨y, hy, rfl⟩ := List.mem_map.mp h
    exact ⟨List.mem_range.mp hx, List.mem_range.mp hy⟩
  · rintro ⟨h1, h2⟩
    exact ⟨p.1, List.mem_range.mpr h1, List.mem_map.mpr ⟨p.2, List.mem_range.mpr h2, rfl⟩⟩
def appW (w e : D) : D := match w with
  | .tup ds => .tup (ds ++ [e])
  | _ => .non
theorem lap_p {n : Nat} {W : List D} {ρ : DL.Env} (hn : n ≤ 32) (hW : ∀ w ∈ W, ∃ ds, w = .tup ds ∧ ds.length ≤ 10) (hl : W.length ≤ 40) (h1 : ρ[1]? = some (.sh (.int n))) (h2 : ρ[2]? = some (.sh (.lst W))) (hN : ρ.length = 6) :
    eFr (oLc2 (itS (eVar 2)) (gNm 4) tYes' (itR1 (aCons (eVar 1) aNil)) (gNm 5) tYes' (oLeaf (eBin dAdd (eVar 4) (eTup (aCons (eVar 5) aNil)))) [4, 5] [5]) ρ = pure (.lst (W.flatMap fun w => (rng 0 n).map fun e => appW w e)) := by
  refine lc2_all (g := fun _ => rng 0 n) (f := appW) ?_ (fun w hw => ?_) ?_
  · unfold itS eVar
    rw [h2]; rfl
  · obtain ⟨ds, rfl, hd⟩ := hW w hw
    refine ⟨_, rfl, ?_, fun e he => ?_⟩
    · have h1' : ((wipeE ρ [4, 5]).set 4 (.sh (.tup ds)))[1]? = some (.sh (.int n)) := by
        simp only [wipeE]
        rw [List.getElem?_set_ne (by decide), List.getElem?_set_ne (by decide), List.getElem?_set_ne (by decide)]; exact h1
      generalize (wipeE ρ [4, 5]).set 4 (.sh (.tup ds)) = ρ1 at h1'
      simp [runD, sSeq, sRet, sAsg, sIf, sNext, sDrop, eVar, eC, eBin, eUn, eCall, eDef, eTup, eIf, eAnd, eOr, eNot, aNil, aCons, tBool, tAnd', tOr', tNot', tYes', gNm, gTp, gsC, gsN, oLeaf, itS, itR1, itE, itZ, ofO_s, bind_p, h1']
      omega
    · refine ⟨_, rfl, ?_⟩
      have a4 : ((wipeE ((wipeE ρ [4, 5]).set 4 (.sh (.tup ds))) [5]).set 5 (.sh e))[4]? = some (.sh (.tup ds)) := by
        simp only [wipeE]
        rw [List.getElem?_set_ne (by decide), List.getElem?_set_ne (by decide), List.getElem?_set_self (by simp; omega)]
      have a5 : ((wipeE ((wipeE ρ [4, 5]).set 4 (.sh (.tup ds))) [5]).set 5 (.sh e))[5]? = some (.sh e) := by
        simp only [wipeE]
        rw [List.getElem?_set_self (by simp; omega)]
      generalize (wipeE ((wipeE ρ [4, 5]).set 4 (.sh (.tup ds))) [5]).set 5 (.sh e) = ρ2 at a4 a5
      have ad : dAdd (.tup ds) (.tup [e]) = some (.tup (ds ++ [e])) := dAdd_tup (by simp; omega)
      simp [runD, sSeq, sRet, sAsg, sIf, sNext, sDrop, eVar, eC, eBin, eUn, eCall, eDef, eTup, eIf, eAnd, eOr, eNot, aNil, aCons, tBool, tAnd', tOr', tNot', tYes', gNm, gTp, gsC, gsN, oLeaf, itS, itR1, itE, itZ, ofO_s, bind_p, a4, a5, ad, appW]
  · rw [List.length_flatMap]
    simp only [List.length_map, rng_length]
    rw [show (W.map fun _ => n) = List.replicate W.length n by rw [List.map_const'], List.sum_replicate_nat]
    calc W.length * n ≤ 40 * 32 := Nat.mul_le_mul hl hn
      _ ≤ 100000 := by decide
theorem all_words_p {n : Nat} (hn : n ≤ 32) : m_all_words [.int 2, .int n] = pure (.lst ((pairs n).map tieD)) := by
  have e1 := lap_p (n := n) (W := [.tup []]) (ρ := [.sh (.int 2), .sh (.int n), .sh (.lst [.tup []]), .sh (.int 0), .un, .un]) hn (by simp) (by simp) rfl rfl rfl
  have w1 : (([D.tup []] : List D).flatMap fun w => (rng 0 n).map fun e => appW w e) = (List.range n).map fun (x : Nat) => D.tup [.int x] := by
    simp [rng, List.map_map, Function.comp_def, appW]
  rw [w1] at e1
  have e2 := lap_p (n := n) (W := (List.range n).map fun (x : Nat) => D.tup [.int x]) (ρ := [.sh (.int 2), .sh (.int n), .sh (.lst ((List.range n).map fun (x : Nat) => D.tup [.int x])), .sh (.int 1), .un, .un]) hn (fun w hw => by
    obtain ⟨x, _, rfl⟩ := List.mem_map.mp hw
    exact ⟨_, rfl, by simp⟩) (by simp; omega) rfl rfl rfl
  have w2 : (((List.range n).map fun (x : Nat) => D.tup [.int x]).flatMap fun w => (rng 0 n).map fun e => appW w e) = (pairs n).map tieD := by
    unfold pairs
    rw [List.flatMap_map, List.map_flatMap]
    congr 1
    funext x
    simp [rng, List.map_map, Function.comp_def, appW, tieD]
  rw [w2] at e2
  have i0 : eFr (oLst (aCons (eTup aNil) aNil)) [.sh (.int 2), .sh (.int n), .un, .un, .un, .un] = pure (.lst [.tup []]) := eFr_lst (by simp [runD, sSeq, sRet, sAsg, sIf, sNext, sDrop, eVar, eC, eBin, eUn, eCall, eDef, eTup, eIf, eAnd, eOr, eNot, aNil, aCons, tBool, tAnd', tOr', tNot', tYes', gNm, gTp, gsC, gsN, oLeaf, itS, itR1, itE, itZ, ofO_s, bind_p]) (by simp)
  have r2 : rng 0 2 = [.int 0, .int 1] := rfl
  have g : itR1 (aCons (eVar 0) aNil) [.sh (.int 2), .sh (.int n), .sh (.lst [.tup []]), .un, .un, .un] = pure [.int 0, .int 1] := itR1_p (n := 2) (z := 2) (by simp [runD, sSeq, sRet, sAsg, sIf, sNext, sDrop, eVar, eC, eBin, eUn, eCall, eDef, eTup, eIf, eAnd, eOr, eNot, aNil, aCons, tBool, tAnd', tOr', tNot', tYes', gNm, gTp, gsC, gsN, oLeaf, itS, itE, itZ, ofO_s, bind_p]) rfl (by decide)
  unfold m_all_words
  refine run_ret ?_
  show sSeq _ _ [.sh (.int 2), .sh (.int n), .un, .un, .un, .un] = _
  rw [seq_next (asg_p i0), seq_next (ρ1 := [.sh (.int 2), .sh (.int n), .sh (.lst ((pairs n).map tieD)), .sh (.int 1), .un, .un]), ret_p (var_p (d := .lst ((pairs n).map tieD)) rfl)]
  refine (for_p g).trans ?_
  refine (loop_next gnm_p (asg_p e1)).trans ?_
  refine (loop_next gnm_p (asg_p e2)).trans ?_
  rfl
end Lk65
set_option Elab.async false
set_option linter.all false
set_option maxRecDepth 100000
set_option maxHeartbeats 4000000
namespace Lk65
open PySem L2 DL

/-! ### settled_strong -/
abbrev Fst := List (Int × Tie)
def fm (F : Fst) : M := .dK (F.map fun e => .inl e.1) (F.map fun e => .leaf (tieD e.2))
def fd (F : Fst) : D := .dK (F.map fun e => .inl e.1) (F.map fun e => tieD e.2)
theorem fm_toD (F : Fst) : (fm F).toD = fd F := by
  unfold fm fd
  rw [M.toD, toDs_map]
  rfl
def fget : Fst → Int → Option Tie
  | [], _ => none
  | (t, q) :: F, s => if t = s then some q else fget F s
theorem look_F (s : Int) : ∀ F : Fst, look (F.map fun e => (.inl e.1 : L2.Key)) (F.map fun e => tieD e.2) (.inl s) = (fget F s).map tieD
  | [] => rfl
  | (t, q) :: F => by
    simp only [List.map_cons, look, fget]
    by_cases c : t = s
    · subst c; simp
    · rw [if_neg (fun z => c (Sum.inl.inj z)), if_neg c]
      exact look_F s F
theorem in_F {neg : Bool} {i j : Nat} {ρ : DL.Env} {F : Fst} {s : Int} (h1 : ρ[i]? = some (.ow (fm F))) (h2 : ρ[j]? = some (.sh (.int s))) : eAll (eInD neg (eVar j) (eVar i)) ρ = pure (.bl (if neg then !(fget F s).isSome else (fget F s).isSome)) := by
  have a1 : (allSh ρ)[i]? = some (.sh (fd F)) := by unfold allSh; rw [List.getElem?_map, h1, ← fm_toD]; rfl
  have a2 : (allSh ρ)[j]? = some (.sh (.int s)) := by unfold allSh; rw [List.getElem?_map, h2]; rfl
  unfold eAll eInD
  rw [var_p a2, bind_p, var_p a1, bind_p]
  have : dLook (fd F) (.int s) = some ((fget F s).map tieD) := by
    unfold fd
    simp only [dLook, keyD, look_F]
  rw [this]
  cases fget F s <;> cases neg <;> rfl
theorem idx_F (s : Int) : ∀ {F : Fst} {q : Tie}, fget F s = some q → ∃ j, idx (F.map fun e => (.inl e.1 : L2.Key)) (.inl s) = some j ∧ F[j]?.map (·.2) = some q
  | [], q, h => by cases h
  | (t, r) :: F, q, h => by
    simp only [fget] at h
    simp only [List.map_cons, idx]
    by_cases c : t = s
    · rw [if_pos c] at h
      rw [if_pos (by rw [c])]
      exact ⟨0, rfl, by simpa using h⟩
    · rw [if_neg c] at h
      rw [if_neg (fun z => c (Sum.inl.inj z))]
      obtain ⟨j, h1, h2⟩ := idx_F s h
      exact ⟨j + 1, by rw [h1]; rfl, by simpa using h2⟩
theorem at_F {i j : Nat} {ρ : DL.Env} {F : Fst} {s : Int} {q : Tie} (h1 : ρ[i]? = some (.ow (fm F))) (h2 : ρ[j]? = some (.sh (.int s))) (h : fget F s = some q) : eAt i (lIx i lHere (eVar j)) ρ = pure (tieD q) := by
  obtain ⟨n, e1, e2⟩ := idx_F s h
  have ho : ownAt i ρ = some (fm F) := by unfold ownAt; rw [h1]
  have hs : stepIx (fm F) (.int s) = some n := by
    unfold fm
    simp only [stepIx, keyD]
    exact e1
  have hk : (fm F).kid n = some (.leaf (tieD q)) := by
    unfold fm
    simp only [M.kid, List.getElem?_map]
    cases hf : F[n]? with
    | none => rw [hf] at e2; cases e2
    | some x =>
      rw [hf] at e2
      cases e2
      rfl
  have hl : lIx i lHere (eVar j) ρ = pure [n] := by
    unfold lIx lHere
    simp only [bind_p, var_p h2, ho, M.at, hs, hk, Option.isSome_some, if_true, List.nil_append]
  unfold eAt
  rw [hl, bind_p, ho]
  simp only [Option.bind_some, M.at, hk]
theorem set_F {i j : Nat} {ρ : DL.Env} {F : Fst} {s : Int} {p : Tie} (h1 : ρ[i]? = some (.ow (fm F))) (h2 : ρ[j]? = some (.sh (.int s))) (h : fget F s = none) (hl : F.length ≤ 5000) :
    gSet i lHere (eVar j) (tieD p) ρ = pure (ρ.set i (.ow (fm (F ++ [(s, p)])))) := by
  have hn : (Sum.inl s : L2.Key) ∉ F.map fun e => (.inl e.1 : L2.Key) := by
    intro z
    induction F with
    | nil => cases z
    | cons e F ih =>
      obtain ⟨t, q⟩ := e
      simp only [fget] at h
      by_cases c : t = s
      · rw [if_pos c] at h; cases h
      · rw [if_neg c] at h
        simp only [List.map_cons, List.mem_cons] at z
        rcases z with z | z
        · exact c (Sum.inl.inj z).symm
        · have lf : fget F s = none := h
          clear ih
          have : ∀ G : Fst, fget G s = none → (Sum.inl s : L2.Key) ∉ G.map fun e => (.inl e.1 : L2.Key) := by
            intro G
            induction G with
            | nil => intro _ z; cases z
            | cons e G ih =>
              obtain ⟨t', q'⟩ := e
              intro h z
              simp only [fget] at h
              by_cases c : t' = s
              · rw [if_pos c] at h; cases h
              · rw [if_neg c] at h
                simp only [List.map_cons, List.mem_cons] at z
                rcases z with z | z
                · exact c (Sum.inl.inj z).symm
                · exact ih h z
          exact this F lf z
  have ho : ownAt i ρ = some (fm F) := by unfold ownAt; rw [h1]
  have hs : setM (fm F) (.int s) (tieD p) = some (fm (F ++ [(s, p)])) := by
    unfold fm
    have lf : leafsOf (F.map fun e => M.leaf (tieD e.2)) = some (F.map fun e => tieD e.2) := by
      have := leafsOf_map (F.map fun e => tieD e.2)
      rw [List.map_map] at this
      exact this
    simp only [setM, keyD, lf]
    rw [if_pos (by rw [List.length_map]; omega)]
    unfold putD
    rw [if_neg hn]
    simp [List.map_append]
  unfold gSet lHere
  rw [bind_p, var_p h2, bind_p]
  simp only [ho, M.at, hs, M.put]
/-- how the pairs are gone through -/
def settle (a : Nat → Nat → Int) (n : Nat) : List Tie → Fst → (Tie × Tie) ⊕ Fst
  | [], F => .inr F
  | p :: r, F => match fget F (srt a p) with
    | some q => if cnt a n q = cnt a n p then settle a n r F else .inl (q, p)
    | none => settle a n r (F ++ [(srt a p, p)])
def sbody : DL.Env → MM Out := (sSeq (sAsg 3 (eDef 2 m_pair_sort (aCons (eVar 0) (aCons (eVar 2) aNil))))
    (sSeq (sIf (tAnd' (tBool (eAll (eInD false (eVar 3) (eVar 1)))) (tBool (eBin dNe (eDef 2 m_both_tied (aCons (eVar 0) (aCons (eAt 1 (lIx 1 lHere (eVar 3))) aNil))) (eDef 2 m_both_tied (aCons (eVar 0) (aCons (eVar 2) aNil)))))) (sRet (eDef 2 m_NotStrong_init (aCons (eAt 1 (lIx 1 lHere (eVar 3))) (aCons (eVar 2) aNil)))) sNext)
    (sIf (tBool (eAll (eInD true (eVar 3) (eVar 1)))) (sAsgG (gSet 1 lHere (eVar 3)) (eVar 2)) sNext)))
theorem def2_p {m : List D → MM D} {e1 e2 : DL.Env → MM D} {ρ : DL.Env} {x y : D} (h1 : e1 ρ = pure x) (h2 : e2 ρ = pure y) : eDef 2 m (aCons e1 (aCons e2 aNil)) ρ = m [x, y] := by
  unfold eDef aCons aNil
  simp only [h1, h2, bind_p]
  rfl
theorem bin_p {f : D → D → Option D} {e1 e2 : DL.Env → MM D} {ρ : DL.Env} {x y z : D} (h1 : e1 ρ = pure x) (h2 : e2 ρ = pure y) (h : f x y = some z) : eBin f e1 e2 ρ = pure z := by
  unfold eBin
  rw [h1, bind_p, h2, bind_p, h]
  rfl
theorem sbody_p {n : Nat} {a : Nat → Nat → Int} (A : Adj n a) {F : Fst} {p : Tie} {ρ : DL.Env} (h0 : ρ[0]? = some (.sh (matD n a))) (h1 : ρ[1]? = some (.ow (fm F))) (h2 : ρ[2]? = some (.sh (tieD p))) (hN : ρ.length = 5) (hp : p.1 < n ∧ p.2 < n) (hF : ∀ s q, fget F s = some q → q.1 < n ∧ q.2 < n) (hl : F.length ≤ 5000) :
    sbody ρ = match fget F (srt a p) with
      | some q => if cnt a n q = cnt a n p then pure (.next (ρ.set 3 (.sh (.int (srt a p))))) else pure (.ret (notD (tieD q) (tieD p)))
      | none => pure (.next ((ρ.set 3 (.sh (.int (srt a p)))).set 1 (.ow (fm (F ++ [(srt a p, p)]))))) := by
  have e0 : eDef 2 m_pair_sort (aCons (eVar 0) (aCons (eVar 2) aNil)) ρ = pure (.int (srt a p)) := by
    rw [def2_p (var_p h0) (var_p h2), pair_sort_p hp.1 hp.2]
  have k0 : (ρ.set 3 (.sh (.int (srt a p))))[0]? = some (.sh (matD n a)) := by rw [List.getElem?_set_ne (by decide)]; exact h0
  have k1 : (ρ.set 3 (.sh (.int (srt a p))))[1]? = some (.ow (fm F)) := by rw [List.getElem?_set_ne (by decide)]; exact h1
  have k2 : (ρ.set 3 (.sh (.int (srt a p))))[2]? = some (.sh (tieD p)) := by rw [List.getElem?_set_ne (by decide)]; exact h2
  have k3 : (ρ.set 3 (.sh (.int (srt a p))))[3]? = some (.sh (.int (srt a p))) := by rw [List.getElem?_set_self (by omega)]
  unfold sbody
  rw [seq_next (asg_p e0)]
  generalize hρ : ρ.set 3 (.sh (.int (srt a p))) = ρ1 at k0 k1 k2 k3
  have i1 := in_F (neg := false) k1 k3
  have i2 := in_F (neg := true) k1 k3
  have b2 : eDef 2 m_both_tied (aCons (eVar 0) (aCons (eVar 2) aNil)) ρ1 = pure (.int (cnt a n p)) := by rw [def2_p (var_p k0) (var_p k2), both_tied_p A hp.1 hp.2]
  cases hg : fget F (srt a p) with
  | none =>
    rw [hg] at i1 i2
    have t1 : tAnd' (tBool (eAll (eInD false (eVar 3) (eVar 1)))) (tBool (eBin dNe (eDef 2 m_both_tied (aCons (eVar 0) (aCons (eAt 1 (lIx 1 lHere (eVar 3))) aNil))) (eDef 2 m_both_tied (aCons (eVar 0) (aCons (eVar 2) aNil))))) ρ1 = pure false := by
      unfold tAnd'
      rw [bool_p (c := false) i1]
      rfl
    rw [seq_next (sif_f t1), sif_t (bool_p (c := true) i2)]
    unfold sAsgG
    rw [var_p k2, bind_p, set_F k1 k3 hg hl]
    rfl
  | some q =>
    rw [hg] at i1 i2
    have hq := hF _ _ hg
    have b1 : eDef 2 m_both_tied (aCons (eVar 0) (aCons (eAt 1 (lIx 1 lHere (eVar 3))) aNil)) ρ1 = pure (.int (cnt a n q)) := by rw [def2_p (var_p k0) (at_F k1 k3 hg), both_tied_p A hq.1 hq.2]
    have t1 : tAnd' (tBool (eAll (eInD false (eVar 3) (eVar 1)))) (tBool (eBin dNe (eDef 2 m_both_tied (aCons (eVar 0) (aCons (eAt 1 (lIx 1 lHere (eVar 3))) aNil))) (eDef 2 m_both_tied (aCons (eVar 0) (aCons (eVar 2) aNil))))) ρ1 = pure (!decide ((cnt a n q : Int) = (cnt a n p : Int))) := by
      unfold tAnd'
      rw [bool_p (c := true) i1]
      exact bool_p (bin_p b1 b2 (ne_ints _ _))
    simp only
    by_cases c : cnt a n q = cnt a n p
    · rw [if_pos c]
      rw [show (!decide ((cnt a n q : Int) = (cnt a n p : Int))) = false by simp [c]] at t1
      rw [seq_next (sif_f t1), sif_f (bool_p (c := false) i2)]
      rfl
    · rw [if_neg c]
      rw [show (!decide ((cnt a n q : Int) = (cnt a n p : Int))) = true by simp; omega] at t1
      rw [seq_ret (d := notD (tieD q) (tieD p))]
      rw [sif_t t1, ret_p]
      rw [def2_p (at_F k1 k3 hg) (var_p k2), NotStrong_init_p (kept_tie q) (kept_tie p)]
theorem fget_snoc (s : Int) (t : Int) (p : Tie) : ∀ F : Fst, fget (F ++ [(t, p)]) s = (fget F s).or (if t = s then some p else none)
  | [] => rfl
  | (u, q) :: F => by
    simp only [List.cons_append, fget]
    by_cases c : u = s
    · rw [if_pos c, if_pos c]; rfl
    · rw [if_neg c, if_neg c]; exact fget_snoc s t p F
theorem settle_loop {n : Nat} {a : Nat → Nat → Int} (A : Adj n a) : ∀ (L : List Tie) (F : Fst) (ρ : DL.Env), ρ[0]? = some (.sh (matD n a)) → ρ[1]? = some (.ow (fm F)) → ρ.length = 5 → (∀ p ∈ L, p.1 < n ∧ p.2 < n) → (∀ s q, fget F s = some q → q.1 < n ∧ q.2 < n) → F.length + L.length ≤ 5000 →
    (∀ q p, settle a n L F = .inl (q, p) → loopM (gNm 2) sbody (L.map tieD) ρ = pure (.ret (notD (tieD q) (tieD p)))) ∧
    (∀ F', settle a n L F = .inr F' → (∀ s q, fget F' s = some q → q.1 < n ∧ q.2 < n) ∧ ∃ ρ', loopM (gNm 2) sbody (L.map tieD) ρ = pure (.next ρ') ∧ ρ'[0]? = some (.sh (matD n a)) ∧ ρ'[1]? = some (.ow (fm F')) ∧ ρ'.length = 5)
  | [], F, ρ, h0, h1, hN, _, hF, _ => ⟨(fun q p h => by cases h), fun F' h => by cases h; exact ⟨hF, ρ, rfl, h0, h1, hN⟩⟩
  | p :: L, F, ρ, h0, h1, hN, hL, hF, hl => by
    have hp := hL p (by simp)
    have hL' : ∀ q ∈ L, q.1 < n ∧ q.2 < n := fun q hq => hL q (List.mem_cons_of_mem _ hq)
    have b := sbody_p (ρ := ρ.set 2 (.sh (tieD p))) A (F := F) (p := p) (by rw [List.getElem?_set_ne (by decide)]; exact h0) (by rw [List.getElem?_set_ne (by decide)]; exact h1) (by rw [List.getElem?_set_self (by omega)]) (by simpa using hN) hp hF (by simp at hl; omega)
    simp only [settle, List.map_cons]
    cases hg : fget F (srt a p) with
    | none =>
      rw [hg] at b
      simp only at b ⊢
      have := settle_loop A L (F ++ [(srt a p, p)]) (((ρ.set 2 (.sh (tieD p))).set 3 (.sh (.int (srt a p)))).set 1 (.ow (fm (F ++ [(srt a p, p)])))) (by rw [List.getElem?_set_ne (by decide), List.getElem?_set_ne (by decide), List.getElem?_set_ne (by decide)]; exact h0) (by rw [List.getElem?_set_self (by simp; omega)]) (by simpa using hN) hL' (fun s q h => by
        rw [fget_snoc] at h
        cases hh : fget F s with
        | some q' => rw [hh] at h; cases h; exact hF _ _ hh
        | none =>
          rw [hh] at h
          simp only [Option.none_or] at h
          split at h
          · cases h; exact hp
          · cases h) (by simp at hl ⊢; omega)
      obtain ⟨t1, t2⟩ := this
      refine ⟨fun q p' h => ?_, fun F' h => ?_⟩
      · rw [loop_next gnm_p b]; exact t1 q p' h
      · rw [loop_next gnm_p b]; exact t2 F' h
    | some q =>
      rw [hg] at b
      simp only at b ⊢
      by_cases c : cnt a n q = cnt a n p
      · rw [if_pos c] at b ⊢
        have := settle_loop A L F ((ρ.set 2 (.sh (tieD p))).set 3 (.sh (.int (srt a p)))) (by rw [List.getElem?_set_ne (by decide), List.getElem?_set_ne (by decide)]; exact h0) (by rw [List.getElem?_set_ne (by decide), List.getElem?_set_ne (by decide)]; exact h1) (by simpa using hN) hL' hF (by simp at hl ⊢; omega)
        obtain ⟨t1, t2⟩ := this
        refine ⟨fun q p' h => ?_, fun F' h => ?_⟩
        · rw [loop_next gnm_p b]; exact t1 q p' h
        · rw [loop_next gnm_p b]; exact t2 F' h
      · rw [if_neg c] at b ⊢
        refine ⟨fun q' p' h => ?_, fun F' h => by cases h⟩
        cases h
        rw [loop_ret gnm_p b]
end Lk65
set_option Elab.async false
set_option linter.all false
set_option maxRecDepth 100000
set_option maxHeartbeats 4000000
namespace Lk65
open PySem L2 DL

def told (a : Nat → Nat → Int) (n : Nat) (F : Fst) (s : Int) : D := match fget F s with
  | some q => .int (cnt a n q)
  | none => .non
theorem told_row {n : Nat} {a : Nat → Nat → Int} (A : Adj n a) {F : Fst} {ρ : DL.Env} (h0 : ρ[0]? = some (.sh (matD n a))) (h1 : ρ[1]? = some (.ow (fm F))) (hN : ρ.length = 5) (hF : ∀ s q, fget F s = some q → q.1 < n ∧ q.2 < n) :
    eFr (oLc (itR1 (aCons (eC (.int 3)) aNil)) (gNm 3) tYes' (oLeaf (eIf (tBool (eAll (eInD false (eVar 3) (eVar 1)))) (eDef 2 m_both_tied (aCons (eVar 0) (aCons (eAt 1 (lIx 1 lHere (eVar 3))) aNil))) (eC .non))) [3]) ρ = pure (.lst [told a n F 0, told a n F 1, told a n F 2]) := by
  have g : itR1 (aCons (eC (.int 3)) aNil) ρ = pure (rng 0 3) := itR1_p (n := 3) (z := 3) (by simp [runD, sSeq, sRet, sAsg, sIf, sNext, sDrop, eVar, eC, eBin, eUn, eCall, eDef, eTup, eIf, eAnd, eOr, eNot, aNil, aCons, tBool, tAnd', tOr', tNot', tYes', gNm, gTp, gsC, gsN, oLeaf, itS, itE, itZ, ofO_s, bind_p]) rfl (by decide)
  rw [lc_all (f := fun d => match d with | .int s => told a n F s | _ => .non) g (fun d hd => ?_) (by rw [rng_length]; decide)]
  · rfl
  · unfold rng at hd
    obtain ⟨s, hs, rfl⟩ := List.mem_map.mp hd
    refine ⟨_, rfl, ?_⟩
    have k0 : ((wipeE ρ [3]).set 3 (.sh (.int (0 + (s : Int)))))[0]? = some (.sh (matD n a)) := by
      simp only [wipeE]
      rw [List.getElem?_set_ne (by decide), List.getElem?_set_ne (by decide)]; exact h0
    have k1 : ((wipeE ρ [3]).set 3 (.sh (.int (0 + (s : Int)))))[1]? = some (.ow (fm F)) := by
      simp only [wipeE]
      rw [List.getElem?_set_ne (by decide), List.getElem?_set_ne (by decide)]; exact h1
    have k3 : ((wipeE ρ [3]).set 3 (.sh (.int (0 + (s : Int)))))[3]? = some (.sh (.int (0 + (s : Int)))) := by
      simp only [wipeE]
      rw [List.getElem?_set_self (by simp; omega)]
    generalize (wipeE ρ [3]).set 3 (.sh (.int (0 + (s : Int)))) = ρ1 at k0 k1 k3
    have i1 := in_F (neg := false) k1 k3
    unfold eIf told
    cases hg : fget F (0 + (s : Int)) with
    | none =>
      rw [hg] at i1
      rw [bool_p (c := false) i1]
      show (pure D.non : MM D) = pure (match fget F (0 + (s : Int)) with | some q => D.int (cnt a n q) | none => D.non)
      rw [hg]
    | some q =>
      rw [hg] at i1
      have hq := hF _ _ hg
      rw [bool_p (c := true) i1, bind_p, if_pos rfl, def2_p (var_p k0) (at_F k1 k3 hg), both_tied_p A hq.1 hq.2]
      show _ = (pure (match fget F (0 + (s : Int)) with | some q => D.int (cnt a n q) | none => D.non) : MM D)
      rw [hg]
theorem settled_p {n : Nat} {a : Nat → Nat → Int} (A : Adj n a) : m_settled_strong [matD n a] = match settle a n (pairs n) [] with
    | .inl (q, p) => pure (notD (tieD q) (tieD p))
    | .inr F => pure (strongD (told a n F 0) (told a n F 1) (told a n F 2)) := by
  have l0 : dLen [matD n a] = some (.int n) := mat_len
  have it : itS (eDef 2 m_all_words (aCons (eC (.int 2)) (aCons (eCall dLen (aCons (eVar 0) aNil)) aNil))) [.sh (matD n a), .ow (fm []), .un, .un, .un] = pure ((pairs n).map tieD) := by
    have w := all_words_p A.le
    simp [runD, sSeq, sRet, sAsg, sIf, sNext, sDrop, eVar, eC, eBin, eUn, eCall, eDef, eTup, eIf, eAnd, eOr, eNot, aNil, aCons, tBool, tAnd', tOr', tNot', tYes', gNm, gTp, gsC, gsN, oLeaf, itS, itE, itZ, ofO_s, bind_p, l0, w]
  have hlen : (pairs n).length ≤ 5000 := by
    unfold pairs
    rw [List.length_flatMap]
    simp only [List.length_map, List.length_range]
    rw [List.map_const', List.sum_replicate_nat, List.length_range]
    calc n * n ≤ 32 * 32 := Nat.mul_le_mul A.le A.le
      _ ≤ 5000 := by decide
  obtain ⟨t1, t2⟩ := settle_loop A (pairs n) [] [.sh (matD n a), .ow (fm []), .un, .un, .un] rfl rfl rfl (fun p hp => mem_pairs.mp hp) (fun s q h => by cases h) (by simpa using hlen)
  unfold m_settled_strong
  cases hs : settle a n (pairs n) [] with
  | inl r =>
    obtain ⟨q, p⟩ := r
    have e := t1 q p hs
    refine run_ret ?_
    refine (seq_next (own_p (m := .dK [] []) rfl)).trans ?_
    refine seq_ret ?_
    exact (for_p it).trans e
  | inr F =>
    obtain ⟨hF, ρ', e, h0, h1, hN⟩ := t2 F hs
    have tr := told_row A h0 h1 hN hF
    refine run_ret ?_
    refine (seq_next (own_p (m := .dK [] []) rfl)).trans ?_
    refine (seq_next ((for_p it).trans e)).trans ?_
    refine (seq_next (asg_p tr)).trans ?_
    refine ret_p ?_
    have k4 : (ρ'.set 4 (.sh (.lst [told a n F 0, told a n F 1, told a n F 2])))[4]? = some (.sh (.lst [told a n F 0, told a n F 1, told a n F 2])) := by rw [List.getElem?_set_self (by omega)]
    have g0 : eBin dSub2 (eVar 4) (eC (.int 0)) (ρ'.set 4 (.sh (.lst [told a n F 0, told a n F 1, told a n F 2]))) = pure (told a n F 0) := bin_p (var_p k4) rfl rfl
    have g1 : eBin dSub2 (eVar 4) (eC (.int 1)) (ρ'.set 4 (.sh (.lst [told a n F 0, told a n F 1, told a n F 2]))) = pure (told a n F 1) := bin_p (var_p k4) rfl rfl
    have g2 : eBin dSub2 (eVar 4) (eC (.int 2)) (ρ'.set 4 (.sh (.lst [told a n F 0, told a n F 1, told a n F 2]))) = pure (told a n F 2) := bin_p (var_p k4) rfl rfl
    unfold eDef aCons aNil
    simp only [g0, g1, g2, bind_p]
    exact Strong_init_p _ _ _

/-! ### what settle tells -/
def clash (a : Nat → Nat → Int) (n : Nat) : Prop := ∃ p q, p ∈ pairs n ∧ q ∈ pairs n ∧ srt a p = srt a q ∧ cnt a n p ≠ cnt a n q
theorem settle_spec {n : Nat} {a : Nat → Nat → Int} : ∀ (L : List Tie) (F : Fst) (Z : List Tie), (∀ s q, fget F s = some q → q ∈ Z ∧ srt a q = s) → (∀ p ∈ Z, ∃ q, fget F (srt a p) = some q ∧ cnt a n q = cnt a n p) →
    (∀ q p, settle a n L F = .inl (q, p) → (q ∈ Z ∨ q ∈ L) ∧ p ∈ L ∧ srt a q = srt a p ∧ cnt a n q ≠ cnt a n p) ∧
    (∀ F', settle a n L F = .inr F' → (∀ s q, fget F' s = some q → (q ∈ Z ∨ q ∈ L) ∧ srt a q = s) ∧ ∀ p, p ∈ Z ∨ p ∈ L → ∃ q, fget F' (srt a p) = some q ∧ cnt a n q = cnt a n p)
  | [], F, Z, h1, h2 => ⟨(fun q p h => by cases h), fun F' h => by
      cases h
      exact ⟨fun s q h => ⟨Or.inl (h1 s q h).1, (h1 s q h).2⟩, fun p hp => h2 p (by simpa using hp)⟩⟩
  | p :: L, F, Z, h1, h2 => by
    simp only [settle]
    cases hg : fget F (srt a p) with
    | none =>
      simp only
      obtain ⟨t1, t2⟩ := settle_spec L (F ++ [(srt a p, p)]) (p :: Z) (fun s q h => by
        rw [fget_snoc] at h
        cases hh : fget F s with
        | some q' =>
          rw [hh] at h; cases h
          exact ⟨List.mem_cons_of_mem _ (h1 _ _ hh).1, (h1 _ _ hh).2⟩
        | none =>
          rw [hh] at h
          simp only [Option.none_or] at h
          split at h
          · rename_i e
            cases h; exact ⟨by simp, e⟩
          · cases h) (fun q hq => by
        rw [fget_snoc]
        rcases List.mem_cons.mp hq with rfl | hq
        · rw [hg]; exact ⟨q, by simp, rfl⟩
        · obtain ⟨r, e1, e2⟩ := h2 q hq
          rw [e1]; exact ⟨r, rfl, e2⟩)
      refine ⟨fun q p' h => ?_, fun F' h => ?_⟩
      · obtain ⟨a1, a2, a3⟩ := t1 q p' h
        refine ⟨?_, List.mem_cons_of_mem _ a2, a3⟩
        rcases a1 with z | z
        · rcases List.mem_cons.mp z with rfl | z
          · exact Or.inr (by simp)
          · exact Or.inl z
        · exact Or.inr (List.mem_cons_of_mem _ z)
      · obtain ⟨a1, a2⟩ := t2 F' h
        refine ⟨fun s q hq => ?_, fun q hq => ?_⟩
        · obtain ⟨b1, b2⟩ := a1 s q hq
          refine ⟨?_, b2⟩
          rcases b1 with z | z
          · rcases List.mem_cons.mp z with rfl | z
            · exact Or.inr (by simp)
            · exact Or.inl z
          · exact Or.inr (List.mem_cons_of_mem _ z)
        · refine a2 q ?_
          rcases hq with z | z
          · exact Or.inl (List.mem_cons_of_mem _ z)
          · rcases List.mem_cons.mp z with rfl | z
            · exact Or.inl (by simp)
            · exact Or.inr z
    | some r =>
      simp only
      obtain ⟨r1, r2⟩ := h1 _ _ hg
      by_cases c : cnt a n r = cnt a n p
      · rw [if_pos c]
        obtain ⟨t1, t2⟩ := settle_spec L F (p :: Z) (fun s q h => ⟨List.mem_cons_of_mem _ (h1 s q h).1, (h1 s q h).2⟩) (fun q hq => by
          rcases List.mem_cons.mp hq with rfl | hq
          · exact ⟨r, hg, c⟩
          · exact h2 q hq)
        refine ⟨fun q p' h => ?_, fun F' h => ?_⟩
        · obtain ⟨a1, a2, a3⟩ := t1 q p' h
          refine ⟨?_, List.mem_cons_of_mem _ a2, a3⟩
          rcases a1 with z | z
          · rcases List.mem_cons.mp z with rfl | z
            · exact Or.inr (by simp)
            · exact Or.inl z
          · exact Or.inr (List.mem_cons_of_mem _ z)
        · obtain ⟨a1, a2⟩ := t2 F' h
          refine ⟨fun s q hq => ?_, fun q hq => ?_⟩
          · obtain ⟨b1, b2⟩ := a1 s q hq
            refine ⟨?_, b2⟩
            rcases b1 with z | z
            · rcases List.mem_cons.mp z with rfl | z
              · exact Or.inr (by simp)
              · exact Or.inl z
            · exact Or.inr (List.mem_cons_of_mem _ z)
          · refine a2 q ?_
            rcases hq with z | z
            · exact Or.inl (List.mem_cons_of_mem _ z)
            · rcases List.mem_cons.mp z with rfl | z
              · exact Or.inl (by simp)
              · exact Or.inr z
      · rw [if_neg c]
        refine ⟨fun q p' h => ?_, fun F' h => by cases h⟩
        cases h
        exact ⟨Or.inl r1, by simp, r2, c⟩
theorem settle_bad {n : Nat} {a : Nat → Nat → Int} {q p : Tie} (h : settle a n (pairs n) [] = .inl (q, p)) : clash a n := by
  obtain ⟨t1, _⟩ := settle_spec (a := a) (n := n) (pairs n) [] [] (fun s q h => by cases h) (fun p hp => by cases hp)
  obtain ⟨a1, a2, a3, a4⟩ := t1 q p h
  exact ⟨q, p, by simpa using a1, a2, a3, a4⟩
theorem settle_good {n : Nat} {a : Nat → Nat → Int} {F : Fst} (h : settle a n (pairs n) [] = .inr F) : ¬ clash a n ∧ (∀ s q, fget F s = some q → q ∈ pairs n ∧ srt a q = s) ∧ ∀ p ∈ pairs n, ∃ q, fget F (srt a p) = some q ∧ cnt a n q = cnt a n p := by
  obtain ⟨_, t2⟩ := settle_spec (a := a) (n := n) (pairs n) [] [] (fun s q h => by cases h) (fun p hp => by cases hp)
  obtain ⟨a1, a2⟩ := t2 F h
  refine ⟨?_, fun s q hq => by simpa using a1 s q hq, fun p hp => a2 p (Or.inr hp)⟩
  rintro ⟨p, q, hp, hq, e, ne⟩
  obtain ⟨r, e1, e2⟩ := a2 p (Or.inr hp)
  obtain ⟨r', e3, e4⟩ := a2 q (Or.inr hq)
  rw [e] at e1
  rw [e1] at e3
  cases e3
  exact ne (e2.symm.trans e4)
end Lk65
set_option Elab.async false
set_option linter.all false
set_option maxRecDepth 100000
set_option maxHeartbeats 4000000
namespace Lk65
open PySem L2 DL

/-! ### _law_e_strong -/
def ky (c : Nat) : L2.Key := .inl (c : Int)
def cm (g : List Nat) : M := .dK (g.map ky) (g.map fun _ => .leaf (.bl true))
def cd (g : List Nat) : D := .dK (g.map ky) (g.map fun _ => .bl true)
def add1 (c : Nat) (g : List Nat) : List Nat := if c ∈ g then g else g ++ [c]
def fnd (g : Nat → List Nat) : M := .lst [cm (g 0), cm (g 1), cm (g 2)]
theorem cm_toD (g : List Nat) : (cm g).toD = cd g := by
  unfold cm cd
  rw [M.toD, toDs_map]
  rfl
theorem ky_inj {x c : Nat} (e : ky x = ky c) : x = c := by
  have := Sum.inl.inj e
  omega
theorem key_mem (c : Nat) (g : List Nat) : ky c ∈ g.map ky ↔ c ∈ g := by
  rw [List.mem_map]
  constructor
  · rintro ⟨x, hx, e⟩
    rw [← ky_inj e]; exact hx
  · intro h
    exact ⟨c, h, rfl⟩
theorem repl_true (x : L2.Key) : ∀ g : List Nat, repl (g.map ky) (g.map fun _ => D.bl true) x (.bl true) = g.map fun _ => D.bl true
  | [] => rfl
  | k :: g => by simp only [List.map_cons, repl, repl_true x g, ite_self]
theorem set_cm {g : List Nat} {c : Nat} (hl : g.length ≤ 5000) : setM (cm g) (.int c) (.bl true) = some (cm (add1 c g)) := by
  have lf : leafsOf (g.map fun _ => M.leaf (.bl true)) = some (g.map fun _ => D.bl true) := by
    have := leafsOf_map (g.map fun _ => D.bl true)
    rw [List.map_map] at this
    exact this
  have hk : keyD (.int (c : Int)) = some (ky c) := rfl
  unfold cm
  simp only [setM, hk, lf]
  rw [if_pos (by rw [List.length_map]; omega)]
  unfold putD add1
  by_cases h : c ∈ g
  · rw [if_pos ((key_mem c g).mpr h), if_pos h, repl_true, List.map_map]
    rfl
  · rw [if_neg (fun z => h ((key_mem c g).mp z)), if_neg h]
    simp [List.map_append]
def upd1 (g : Nat → List Nat) (s c : Nat) : Nat → List Nat := fun t => if t = s then add1 c (g t) else g t
/-- found[s][c] = True -/
theorem set_fnd {k : Nat} {g : Nat → List Nat} {s c : Nat} {ρ : DL.Env} {ms mc : DL.Env → MM D} (h : ρ[k]? = some (.ow (fnd g))) (hs : ms ρ = pure (.int s)) (hc : mc ρ = pure (.int c)) (ls : s < 3) (hl : ∀ t, (g t).length ≤ 5000) :
    gSet k (lIx k lHere ms) mc (.bl true) ρ = pure (ρ.set k (.ow (fnd (upd1 g s c)))) := by
  have ho : ownAt k ρ = some (fnd g) := by unfold ownAt; rw [h]
  have hk : (fnd g).kid s = some (cm (g s)) := by
    match s, ls with
    | 0, _ => rfl
    | 1, _ => rfl
    | 2, _ => rfl
  have hx : ixN 3 (s : Int) = some s := ixN_nat ls
  have hp : lIx k lHere ms ρ = pure [s] := by
    unfold lIx lHere
    rw [bind_p, hs, bind_p]
    simp only [ho, M.at]
    have : stepIx (fnd g) (.int s) = some s := hx
    simp only [this, hk, Option.isSome_some, if_true, List.nil_append]
  unfold gSet
  rw [hp, bind_p, hc, bind_p]
  have ha : (fnd g).at [s] = some (cm (g s)) := by
    simp only [M.at, hk]
  simp only [ho, ha, set_cm (hl s)]
  congr 3
  unfold fnd upd1
  match s, ls with
  | 0, _ => rfl
  | 1, _ => rfl
  | 2, _ => rfl
theorem mem_add1 {c x : Nat} {g : List Nat} : x ∈ add1 c g ↔ x = c ∨ x ∈ g := by
  unfold add1
  split
  · constructor
    · exact Or.inr
    · rintro (rfl | h)
      · assumption
      · exact h
  · rw [List.mem_append, List.mem_singleton, Or.comm]
theorem nd_add1 {c : Nat} {g : List Nat} (h : g.Nodup) : (add1 c g).Nodup := by
  unfold add1
  split
  · exact h
  · rename_i q
    rw [List.nodup_append]
    refine ⟨h, by simp, fun a ha b hb e => ?_⟩
    rw [List.mem_singleton] at hb
    exact q (by rw [← hb, ← e]; exact ha)
theorem len_add1 {c : Nat} {g : List Nat} : (add1 c g).length ≤ g.length + 1 := by
  unfold add1
  split
  · omega
  · simp
/-- what the three dicts hold behind the pairs L -/
structure Held (a : Nat → Nat → Int) (n : Nat) (L : List Tie) (g : Nat → List Nat) : Prop where
  nd : ∀ s, (g s).Nodup
  mem : ∀ s c, s < 3 → (c ∈ g s ↔ ∃ p ∈ L, srt a p = (s : Int) ∧ cnt a n p = c)
  len : ∀ s, (g s).length ≤ L.length
theorem srt_nat {n : Nat} {a : Nat → Nat → Int} (A : Adj n a) (p : Tie) : ∃ s : Nat, s < 3 ∧ srt a p = (s : Int) := by
  unfold srt
  split
  · exact ⟨0, by decide, rfl⟩
  · rcases A.bit p.1 p.2 with h | h <;> rw [h]
    · exact ⟨2, by decide, rfl⟩
    · exact ⟨1, by decide, rfl⟩
theorem Held.snoc {n : Nat} {a : Nat → Nat → Int} {L : List Tie} {g : Nat → List Nat} (h : Held a n L g) {p : Tie} {s : Nat} (hs : srt a p = (s : Int)) : Held a n (L ++ [p]) (upd1 g s (cnt a n p)) := by
  refine ⟨fun t => ?_, fun t c ht => ?_, fun t => ?_⟩
  · unfold upd1
    split
    · exact nd_add1 (h.nd t)
    · exact h.nd t
  · unfold upd1
    by_cases e : t = s
    · subst e
      rw [if_pos rfl, mem_add1, h.mem t c ht]
      constructor
      · rintro (rfl | ⟨q, hq, e1, e2⟩)
        · exact ⟨p, by simp, hs, rfl⟩
        · exact ⟨q, by simp [hq], e1, e2⟩
      · rintro ⟨q, hq, e1, e2⟩
        rw [List.mem_append, List.mem_singleton] at hq
        rcases hq with hq | rfl
        · exact Or.inr ⟨q, hq, e1, e2⟩
        · exact Or.inl e2.symm
    · rw [if_neg e, h.mem t c ht]
      constructor
      · rintro ⟨q, hq, e1, e2⟩
        exact ⟨q, by simp [hq], e1, e2⟩
      · rintro ⟨q, hq, e1, e2⟩
        rw [List.mem_append, List.mem_singleton] at hq
        rcases hq with hq | rfl
        · exact ⟨q, hq, e1, e2⟩
        · rw [hs] at e1
          omega
  · unfold upd1
    rw [List.length_append, List.length_singleton]
    split
    · have := len_add1 (c := cnt a n p) (g := g t)
      have := h.len t
      omega
    · have := h.len t
      omega
def ebody : DL.Env → MM Out := (sAsgG (gSet 3 (lIx 3 lHere (eIf (tBool (eBin dEq (eVar 4) (eVar 5))) (eC (.int 0)) (eBin dSub (eC (.int 2)) (eBin dSub2 (eBin dSub2 (eVar 2) (eVar 4)) (eVar 5))))) (eDef 3 m__law_e_both (aCons (eVar 2) (aCons (eVar 4) (aCons (eVar 5) aNil))))) (eC (.bl true)))
theorem def3_p {m : List D → MM D} {e1 e2 e3 : DL.Env → MM D} {ρ : DL.Env} {x y z : D} (h1 : e1 ρ = pure x) (h2 : e2 ρ = pure y) (h3 : e3 ρ = pure z) : eDef 3 m (aCons e1 (aCons e2 (aCons e3 aNil))) ρ = m [x, y, z] := by
  unfold eDef aCons aNil
  simp only [h1, h2, h3, bind_p]
  rfl
theorem def1_p {m : List D → MM D} {e1 : DL.Env → MM D} {ρ : DL.Env} {x : D} (h1 : e1 ρ = pure x) : eDef 1 m (aCons e1 aNil) ρ = m [x] := by
  unfold eDef aCons aNil
  simp only [h1, bind_p]
  rfl
theorem ebody_p {n : Nat} {a : Nat → Nat → Int} (A : Adj n a) {g : Nat → List Nat} {p : Tie} {ρ : DL.Env} (h2 : ρ[2]? = some (.sh (matD n a))) (h3 : ρ[3]? = some (.ow (fnd g))) (h4 : ρ[4]? = some (.sh (.int p.1))) (h5 : ρ[5]? = some (.sh (.int p.2))) (hp : p.1 < n ∧ p.2 < n) {s : Nat} (ls : s < 3) (hs : srt a p = (s : Int)) (hl : ∀ t, (g t).length ≤ 5000) :
    ebody ρ = pure (.next (ρ.set 3 (.ow (fnd (upd1 g s (cnt a n p)))))) := by
  have e1 : eIf (tBool (eBin dEq (eVar 4) (eVar 5))) (eC (.int 0)) (eBin dSub (eC (.int 2)) (eBin dSub2 (eBin dSub2 (eVar 2) (eVar 4)) (eVar 5))) ρ = pure (.int s) := by
    rw [← hs]
    unfold eIf srt
    rw [bool_p (bin_p (var_p h4) (var_p h5) (eq_ints _ _)), bind_p]
    by_cases c : p.1 = p.2
    · rw [if_pos (by simp [c]), if_pos c]; rfl
    · rw [if_neg (by simp; omega), if_neg c]
      exact bin_p (x := .int 2) rfl (bin_p (bin_p (var_p h2) (var_p h4) (mat_get hp.1)) (var_p h5) (row_get hp.2)) rfl
  have e2 : eDef 3 m__law_e_both (aCons (eVar 2) (aCons (eVar 4) (aCons (eVar 5) aNil))) ρ = pure (.int (cnt a n p)) := by
    rw [def3_p (var_p h2) (var_p h4) (var_p h5), e_both_p A hp.1 hp.2]
  unfold ebody sAsgG
  rw [show eC (.bl true) ρ = pure (.bl true) from rfl, bind_p, set_fnd h3 e1 e2 ls hl]
  rfl
theorem inner_p {n : Nat} {a : Nat → Nat → Int} (A : Adj n a) {x : Nat} (hx : x < n) : ∀ (ys : List Nat) (L : List Tie) (g : Nat → List Nat) (ρ : DL.Env), (∀ y ∈ ys, y < n) → ρ[2]? = some (.sh (matD n a)) → ρ[3]? = some (.ow (fnd g)) → ρ[4]? = some (.sh (.int x)) → ρ.length = 7 → Held a n L g → L.length + ys.length ≤ 5000 →
    ∃ ρ' g', loopM (gNm 5) ebody (ys.map fun (y : Nat) => D.int (0 + (y : Int))) ρ = pure (.next ρ') ∧ ρ'[2]? = some (.sh (matD n a)) ∧ ρ'[3]? = some (.ow (fnd g')) ∧ ρ'.length = 7 ∧ (∀ q, q ≠ 3 → q ≠ 5 → ρ'[q]? = ρ[q]?) ∧ Held a n (L ++ ys.map fun y => (x, y)) g'
  | [], L, g, ρ, _, h2, h3, h4, hN, H, _ => ⟨ρ, g, rfl, h2, h3, hN, fun _ _ _ => rfl, by simpa using H⟩
  | y :: ys, L, g, ρ, hy, h2, h3, h4, hN, H, hl => by
    obtain ⟨s, ls, hs⟩ := srt_nat A (x, y)
    have b := ebody_p (ρ := ρ.set 5 (.sh (.int (0 + (y : Int))))) A (g := g) (p := (x, y)) (s := s) (by rw [List.getElem?_set_ne (by decide)]; exact h2) (by rw [List.getElem?_set_ne (by decide)]; exact h3) (by rw [List.getElem?_set_ne (by decide)]; exact h4) (by rw [List.getElem?_set_self (by omega), Int.zero_add]) ⟨hx, hy y (by simp)⟩ ls hs (fun t => by have := H.len t; simp at hl; omega)
    obtain ⟨ρ', g', r1, r2, r3, r4, r5, r6⟩ := inner_p A hx ys (L ++ [(x, y)]) (upd1 g s (cnt a n (x, y))) ((ρ.set 5 (.sh (.int (0 + (y : Int))))).set 3 (.ow (fnd (upd1 g s (cnt a n (x, y)))))) (fun z hz => hy z (List.mem_cons_of_mem _ hz)) (by rw [List.getElem?_set_ne (by decide), List.getElem?_set_ne (by decide)]; exact h2) (by rw [List.getElem?_set_self (by simp; omega)]) (by rw [List.getElem?_set_ne (by decide), List.getElem?_set_ne (by decide)]; exact h4) (by simpa using hN) (H.snoc hs) (by simp at hl ⊢; omega)
    refine ⟨ρ', g', ?_, r2, r3, r4, fun q e1 e2 => ?_, ?_⟩
    · rw [List.map_cons, loop_next gnm_p b]; exact r1
    · rw [r5 q e1 e2, List.getElem?_set_ne (Ne.symm e1), List.getElem?_set_ne (Ne.symm e2)]
    · rw [List.append_assoc] at r6; exact r6
theorem outer_p {n : Nat} {a : Nat → Nat → Int} (A : Adj n a) : ∀ (xs : List Nat) (L : List Tie) (g : Nat → List Nat) (ρ : DL.Env), (∀ x ∈ xs, x < n) → ρ[0]? = some (.sh (.int n)) → ρ[2]? = some (.sh (matD n a)) → ρ[3]? = some (.ow (fnd g)) → ρ.length = 7 → Held a n L g → L.length + xs.length * n ≤ 5000 →
    ∃ ρ' g', loopM (gNm 4) (sFor (itR1 (aCons (eVar 0) aNil)) (gNm 5) ebody) (xs.map fun (x : Nat) => D.int (0 + (x : Int))) ρ = pure (.next ρ') ∧ ρ'[3]? = some (.ow (fnd g')) ∧ ρ'.length = 7 ∧ Held a n (L ++ xs.flatMap fun x => (List.range n).map fun y => (x, y)) g'
  | [], L, g, ρ, _, h0, h2, h3, hN, H, _ => ⟨ρ, g, rfl, h3, hN, by simpa using H⟩
  | x :: xs, L, g, ρ, hx, h0, h2, h3, hN, H, hl => by
    have hxn := hx x (by simp)
    have it : itR1 (aCons (eVar 0) aNil) (ρ.set 4 (.sh (.int (0 + (x : Int))))) = pure (rng 0 n) := by
      refine itR1_p (n := n) (z := (n : Int)) ?_ rfl (by have := A.le; omega)
      unfold aCons aNil
      rw [var_p (d := .int n) (by rw [List.getElem?_set_ne (by decide)]; exact h0)]
      rfl
    have hl' : L.length + n + xs.length * n ≤ 5000 := by
      rw [List.length_cons, Nat.add_mul] at hl
      omega
    obtain ⟨ρ1, g1, r1, r2, r3, r4, r5, r6⟩ := inner_p A hxn (List.range n) L g (ρ.set 4 (.sh (.int (0 + (x : Int))))) (fun y hy => List.mem_range.mp hy) (by rw [List.getElem?_set_ne (by decide)]; exact h2) (by rw [List.getElem?_set_ne (by decide)]; exact h3) (by rw [List.getElem?_set_self (by omega), Int.zero_add]) (by simpa using hN) H (by rw [List.length_range]; omega)
    obtain ⟨ρ', g', t1, t2, t3, t4⟩ := outer_p A xs (L ++ (List.range n).map fun y => (x, y)) g1 ρ1 (fun z hz => hx z (List.mem_cons_of_mem _ hz)) (by rw [r5 0 (by decide) (by decide), List.getElem?_set_ne (by decide)]; exact h0) r2 r3 r4 r6 (by simp; omega)
    refine ⟨ρ', g', ?_, t2, t3, ?_⟩
    · rw [List.map_cons, loop_next gnm_p ((for_p it).trans r1)]; exact t1
    · rw [List.append_assoc] at t4
      rw [List.flatMap_cons]; exact t4
end Lk65
set_option Elab.async false
set_option linter.all false
set_option maxRecDepth 100000
set_option maxHeartbeats 4000000
namespace Lk65
open PySem L2 DL

def hdD (g : List Nat) : D := match g with
  | [] => .non
  | c :: _ => .int c
def many (g : Nat → List Nat) : Bool := decide (1 < (g 0).length ∨ 1 < (g 1).length ∨ 1 < (g 2).length)
theorem cd_len (g : List Nat) : dLen [cd g] = some (.int g.length) := by
  unfold cd
  simp [dLen]
theorem call1_p {f : List D → Option D} {e1 : DL.Env → MM D} {ρ : DL.Env} {x z : D} (h1 : e1 ρ = pure x) (h : f [x] = some z) : eCall f (aCons e1 aNil) ρ = pure z := by
  unfold eCall aCons aNil
  simp only [h1, bind_p, h]
  rfl
theorem call2_p {f : List D → Option D} {e1 e2 : DL.Env → MM D} {ρ : DL.Env} {x y z : D} (h1 : e1 ρ = pure x) (h2 : e2 ρ = pure y) (h : f [x, y] = some z) : eCall f (aCons e1 (aCons e2 aNil)) ρ = pure z := by
  unfold eCall aCons aNil
  simp only [h1, h2, bind_p, h]
  rfl
theorem list_cd {e1 : DL.Env → MM D} {ρ : DL.Env} {g : List Nat} (h1 : e1 ρ = pure (cd g)) : eFr (oListA (aCons e1 aNil)) ρ = pure (.lst (g.map fun (c : Nat) => .int c)) := by
  have e : oListA (aCons e1 aNil) ρ = pure (.lst ((g.map fun (c : Nat) => D.int c).map .leaf)) := by
    unfold oListA aCons aNil
    simp only [h1, bind_p]
    unfold cd
    show (pure (M.lst (((g.map ky).map kD).map .leaf)) : MM M) = _
    rw [show (g.map ky).map kD = g.map fun (c : Nat) => D.int c by rw [List.map_map]; rfl]
  rw [eFr_p e, toD_leafs]
theorem max3 (x y z : Nat) : dMax [.lst [.int x, .int y, .int z]] = some (.int (max (max (x : Int) y) z)) := by
  simp [dMax, dInts, intsD, maxI]
theorem parO_p {i j : Nat} {m1 m2 : DL.Env → MM M} {ρ : DL.Env} {x y : M} (h1 : m1 ρ = pure x) (h2 : m2 ρ = pure y) : sParO i j (oaCons m1 (oaCons m2 oaNil)) ρ = pure (.next ((ρ.set i (Sl.ofM x)).set j (Sl.ofM y))) := by
  unfold sParO oaCons oaNil
  simp only [h1, h2, bind_p]
theorem ofM_fnd (g : Nat → List Nat) : Sl.ofM (fnd g) = .ow (fnd g) := rfl
theorem ofM_leaf (d : D) : Sl.ofM (.leaf d) = .sh d := rfl
theorem e_strong_p {n : Nat} {T : List Tie} (w : Web n T) : ∃ g, Held (tied T fun _ _ => 0) n (pairs n) g ∧ m__law_e_strong [.int n, .lst (T.map tieD)] = pure (if many g then .non else .tup [hdD (g 0), hdD (g 1), hdD (g 2)]) := by
  have A := w.adj
  have et := e_tied_p w
  generalize tied T (fun _ _ => 0) = a at A et ⊢
  have it : itR1 (aCons (eVar 0) aNil) [.sh (.int n), .sh (.lst (T.map tieD)), .sh (matD n a), .ow (fnd fun _ => []), .un, .un, .un] = pure (rng 0 n) := by
    refine itR1_p (n := n) (z := (n : Int)) ?_ rfl (by have := A.le; omega)
    unfold aCons aNil
    rw [var_p (d := .int n) rfl]
    rfl
  obtain ⟨ρ1, g, r1, r2, r3, H⟩ := outer_p A (List.range n) [] (fun _ => []) [.sh (.int n), .sh (.lst (T.map tieD)), .sh (matD n a), .ow (fnd fun _ => []), .un, .un, .un] (fun x hx => List.mem_range.mp hx) rfl rfl rfl rfl ⟨fun _ => List.nodup_nil, fun s c _ => by simp, fun _ => Nat.zero_le _⟩ (by
    rw [List.length_nil, Nat.zero_add, List.length_range]
    calc n * n ≤ 32 * 32 := Nat.mul_le_mul A.le A.le
      _ ≤ 5000 := by decide)
  refine ⟨g, by simpa [pairs] using H, ?_⟩
  have f3 : (ρ1.set 3 (.sh (.lst [cd (g 0), cd (g 1), cd (g 2)])))[3]? = some (.sh (.lst [cd (g 0), cd (g 1), cd (g 2)])) := by rw [List.getElem?_set_self (by omega)]
  have hN : (ρ1.set 3 (.sh (.lst [cd (g 0), cd (g 1), cd (g 2)]))).length = 7 := by simpa using r3
  have hf : frz 3 ρ1 = ρ1.set 3 (.sh (.lst [cd (g 0), cd (g 1), cd (g 2)])) := by
    rw [frz_at r2]
    unfold fnd
    rw [M.toD]
    simp only [Ms.toDs, cm_toD]
  have c1 : eFr (oLc (itS (eVar 3)) (gNm 6) tYes' (oLeaf (eCall dLen (aCons (eVar 6) aNil))) [6]) (frz 3 ρ1) = pure (.lst [.int (g 0).length, .int (g 1).length, .int (g 2).length]) := by
    rw [hf]
    generalize ρ1.set 3 (.sh (.lst [cd (g 0), cd (g 1), cd (g 2)])) = ρ2 at f3 hN
    rw [lc_all (ds := [cd (g 0), cd (g 1), cd (g 2)]) (f := fun d => match dLen [d] with | some e => e | none => .non) (by unfold itS; rw [var_p f3]; rfl) (fun d hd => ?_) (by simp)]
    · simp only [List.map_cons, List.map_nil, cd_len]
    · have hd' : ∃ s, d = cd (g s) := by
        simp only [List.mem_cons, List.not_mem_nil, or_false] at hd
        rcases hd with rfl | rfl | rfl
        · exact ⟨0, rfl⟩
        · exact ⟨1, rfl⟩
        · exact ⟨2, rfl⟩
      obtain ⟨s, rfl⟩ := hd'
      refine ⟨_, rfl, ?_⟩
      rw [call1_p (var_p (d := cd (g s)) ?_) (cd_len (g s))]
      · simp only [cd_len]
      · simp only [wipeE]
        rw [List.getElem?_set_self (by simp; omega)]
  have c2 : eFr (oLc (itS (eVar 3)) (gNm 6) tYes' (oLeaf (eIf (tBool (eBin dGt (eCall dLen (aCons (eVar 6) aNil)) (eC (.int 0)))) (eBin dSub2 (eFr (oListA (aCons (eVar 6) aNil))) (eC (.int 0))) (eC .non))) [6]) (frz 3 ρ1) = pure (.lst [hdD (g 0), hdD (g 1), hdD (g 2)]) := by
    rw [hf]
    generalize ρ1.set 3 (.sh (.lst [cd (g 0), cd (g 1), cd (g 2)])) = ρ2 at f3 hN
    have one : ∀ (g : List Nat) (ρ : DL.Env), ρ[6]? = some (.sh (cd g)) → eIf (tBool (eBin dGt (eCall dLen (aCons (eVar 6) aNil)) (eC (.int 0)))) (eBin dSub2 (eFr (oListA (aCons (eVar 6) aNil))) (eC (.int 0))) (eC .non) ρ = pure (hdD g) := fun g ρ h => by
      have t : eBin dGt (eCall dLen (aCons (eVar 6) aNil)) (eC (.int 0)) ρ = pure (.bl (decide ((0 : Int) < (g.length : Int)))) := bin_p (call1_p (var_p h) (cd_len g)) rfl rfl
      unfold eIf
      rw [bool_p t, bind_p]
      cases g with
      | nil => rw [if_neg (by simp)]; rfl
      | cons c r =>
        rw [if_pos (by simp)]
        exact bin_p (list_cd (var_p h)) rfl (atI_at (i := 0) rfl)
    rw [lc_all (ds := [cd (g 0), cd (g 1), cd (g 2)]) (f := fun d => match d with | .dK (.inl c :: _) _ => .int c | _ => .non) (by unfold itS; rw [var_p f3]; rfl) (fun d hd => ?_) (by simp)]
    · have : ∀ g : List Nat, (match cd g with | .dK (.inl c :: _) _ => D.int c | _ => .non) = hdD g := fun g => by cases g <;> rfl
      simp only [List.map_cons, List.map_nil, this]
    · have hd' : ∃ s, d = cd (g s) := by
        simp only [List.mem_cons, List.not_mem_nil, or_false] at hd
        rcases hd with rfl | rfl | rfl
        · exact ⟨0, rfl⟩
        · exact ⟨1, rfl⟩
        · exact ⟨2, rfl⟩
      obtain ⟨s, rfl⟩ := hd'
      refine ⟨_, rfl, ?_⟩
      rw [one (g s) _ (by simp only [wipeE]; rw [List.getElem?_set_self (by simp; omega)])]
      cases hg : g s <;> rfl
  have t1 : tBool (eBin dGt (eCall dMax (aCons (eFr (oLc (itS (eVar 3)) (gNm 6) tYes' (oLeaf (eCall dLen (aCons (eVar 6) aNil))) [6])) aNil)) (eC (.int 1))) (frz 3 ρ1) = pure (many g) := by
    refine bool_p ?_
    rw [bin_p (z := .bl (decide ((1 : Int) < max (max ((g 0).length : Int) (g 1).length) (g 2).length))) (call1_p c1 (max3 _ _ _)) rfl rfl]
    congr 2
    unfold many
    exact decide_eq_decide.mpr (by omega)
  unfold m__law_e_strong
  have ro : ∀ ρ : DL.Env, oLstO (oaCons oDK (oaCons oDK (oaCons oDK oaNil))) ρ = pure (fnd fun _ => []) := fun ρ => by
    unfold oLstO oaCons oaNil oDK
    simp only [bind_p]
    rw [if_pos (by simp)]
    rfl
  have p0 : sParO 2 3 (oaCons (oLeaf (eDef 2 m__law_e_tied (aCons (eVar 0) (aCons (eVar 1) aNil)))) (oaCons (oLstO (oaCons oDK (oaCons oDK (oaCons oDK oaNil)))) oaNil)) [.sh (.int n), .sh (.lst (T.map tieD)), .un, .un, .un, .un, .un] = pure (.next [.sh (.int n), .sh (.lst (T.map tieD)), .sh (matD n a), .ow (fnd fun _ => []), .un, .un, .un]) := by
    have e1 : oLeaf (eDef 2 m__law_e_tied (aCons (eVar 0) (aCons (eVar 1) aNil))) [.sh (.int n), .sh (.lst (T.map tieD)), .un, .un, .un, .un, .un] = pure (.leaf (matD n a)) := by
      unfold oLeaf
      rw [def2_p (var_p (d := .int n) rfl) (var_p (d := .lst (T.map tieD)) rfl), et, bind_p]
    rw [parO_p e1 (ro _), ofM_fnd, ofM_leaf]
    rfl
  have two : (sSeq (sIf (tBool (eBin dGt (eCall dMax (aCons (eFr (oLc (itS (eVar 3)) (gNm 6) tYes' (oLeaf (eCall dLen (aCons (eVar 6) aNil))) [6])) aNil)) (eC (.int 1)))) (sRet (eC .non)) sNext)
    (sRet (eTuple (eFr (oLc (itS (eVar 3)) (gNm 6) tYes' (oLeaf (eIf (tBool (eBin dGt (eCall dLen (aCons (eVar 6) aNil)) (eC (.int 0)))) (eBin dSub2 (eFr (oListA (aCons (eVar 6) aNil))) (eC (.int 0))) (eC .non))) [6]))))) (frz 3 ρ1) = pure (.ret (if many g then .non else .tup [hdD (g 0), hdD (g 1), hdD (g 2)])) := by
    cases hm : many g with
    | true =>
      rw [hm] at t1
      rw [seq_ret (d := .non)]
      · rfl
      · rw [sif_t t1]; rfl
    | false =>
      rw [hm] at t1
      rw [seq_next (ρ1 := frz 3 ρ1) (by rw [sif_f t1]; rfl), ret_p (eTuple_lst c2)]
      rfl
  refine run_ret ?_
  refine (seq_next p0).trans ?_
  refine (seq_next ((for_p it).trans r1)).trans ?_
  exact two
end Lk65
set_option Elab.async false
set_option linter.all false
set_option maxRecDepth 100000
set_option maxHeartbeats 4000000
namespace Lk65
open PySem L2 DL

theorem many_iff {n : Nat} {a : Nat → Nat → Int} (A : Adj n a) {g : Nat → List Nat} (H : Held a n (pairs n) g) : many g = true ↔ clash a n := by
  have two : ∀ s, s < 3 → 1 < (g s).length → clash a n := fun s hs hl => by
    match hg : g s, hl with
    | c1 :: c2 :: r, _ =>
      have nd := H.nd s
      rw [hg] at nd
      have ne : c1 ≠ c2 := by
        intro e
        have := (List.nodup_cons.mp nd).1
        exact this (by rw [e]; simp)
      obtain ⟨p, hp, e1, e2⟩ := (H.mem s c1 hs).mp (by rw [hg]; simp)
      obtain ⟨q, hq, e3, e4⟩ := (H.mem s c2 hs).mp (by rw [hg]; simp)
      exact ⟨p, q, hp, hq, e1.trans e3.symm, fun e => ne (e2.symm.trans (e.trans e4))⟩
    | [_], h => simp at h
    | [], h => simp at h
  unfold many
  rw [decide_eq_true_iff]
  constructor
  · rintro (h | h | h)
    · exact two 0 (by decide) h
    · exact two 1 (by decide) h
    · exact two 2 (by decide) h
  · rintro ⟨p, q, hp, hq, e, ne⟩
    obtain ⟨s, hs, es⟩ := srt_nat A p
    have m1 := (H.mem s (cnt a n p) hs).mpr ⟨p, hp, es, rfl⟩
    have m2 := (H.mem s (cnt a n q) hs).mpr ⟨q, hq, e ▸ es, rfl⟩
    have hl : 1 < (g s).length := by
      match hg : g s, m1, m2 with
      | [], m1, _ => cases m1
      | [c], m1, m2 =>
        rw [List.mem_singleton] at m1 m2
        exact absurd (m1.trans m2.symm) ne
      | _ :: _ :: _, _, _ => simp
    match s, hs with
    | 0, _ => exact Or.inl hl
    | 1, _ => exact Or.inr (Or.inl hl)
    | 2, _ => exact Or.inr (Or.inr hl)
theorem hd_told {n : Nat} {a : Nat → Nat → Int} {g : Nat → List Nat} (H : Held a n (pairs n) g) {F : Fst} (hF : settle a n (pairs n) [] = .inr F) {s : Nat} (hs : s < 3) : hdD (g s) = told a n F s := by
  obtain ⟨hc, h1, h2⟩ := settle_good hF
  unfold told
  cases hg : g s with
  | nil =>
    cases hf : fget F (s : Int) with
    | none => rfl
    | some q =>
      obtain ⟨b1, b2⟩ := h1 _ _ hf
      have := (H.mem s (cnt a n q) hs).mpr ⟨q, b1, b2, rfl⟩
      rw [hg] at this
      cases this
  | cons c r =>
    obtain ⟨p, hp, e1, e2⟩ := (H.mem s c hs).mp (by rw [hg]; simp)
    obtain ⟨q, e3, e4⟩ := h2 p hp
    rw [e1] at e3
    rw [e3]
    show D.int c = D.int (cnt a n q)
    rw [e4, e2]
/-- what both tell of a web: not strong, or the same three numbers -/
inductive Num : D → Prop where
  | non : Num .non
  | int (c : Nat) : Num (.int c)
theorem told_num (a : Nat → Nat → Int) (n : Nat) (F : Fst) (s : Int) : Num (told a n F s) := by
  unfold told
  split
  · exact .int _
  · exact .non
theorem strong_both {n : Nat} {T : List Tie} (w : Web n T) :
    (∃ q p : Tie, m_settled_strong [matD n (tied T fun _ _ => 0)] = pure (notD (tieD q) (tieD p)) ∧ m__law_e_strong [.int n, .lst (T.map tieD)] = pure .non) ∨
    (∃ k l m : D, Num k ∧ Num l ∧ Num m ∧ m_settled_strong [matD n (tied T fun _ _ => 0)] = pure (strongD k l m) ∧ m__law_e_strong [.int n, .lst (T.map tieD)] = pure (.tup [k, l, m])) := by
  obtain ⟨g, H, e⟩ := e_strong_p w
  have A := w.adj
  have sp := settled_p A
  have mi := many_iff A H
  cases hs : settle (tied T fun _ _ => 0) n (pairs n) [] with
  | inl r =>
    obtain ⟨q, p⟩ := r
    rw [hs] at sp
    rw [if_pos (mi.mpr (settle_bad hs))] at e
    exact Or.inl ⟨q, p, sp, e⟩
  | inr F =>
    rw [hs] at sp
    have hm : ¬ (many g = true) := fun h => (settle_good hs).1 (mi.mp h)
    rw [if_neg hm] at e
    refine Or.inr ⟨_, _, _, told_num _ _ F 0, told_num _ _ F 1, told_num _ _ F 2, sp, ?_⟩
    rw [e, hd_told H hs (s := 0) (by decide), hd_told H hs (s := 1) (by decide), hd_told H hs (s := 2) (by decide)]
    rfl

/-! ### is it a pair of things? -/
def inR (n : Nat) (d : D) : Bool := match d with
  | .int x => decide (0 ≤ x ∧ x < (n : Int))
  | _ => false
theorem inR_int {n : Nat} {d : D} (h : inR n d = true) : ∃ x : Nat, d = .int x ∧ x < n := by
  cases d with
  | int i =>
    simp only [inR, decide_eq_true_iff] at h
    exact ⟨i.toNat, by rw [show ((i.toNat : Nat) : Int) = i by omega], by omega⟩
  | _ => cases h
def isPair (n : Nat) (d : D) : Bool := match d with
  | .tup ds => decide (ds.length = 2) && ds.all (inR n)
  | _ => false
theorem pair_of {n : Nat} {d : D} (h : isPair n d = true) : ∃ p : Tie, d = tieD p ∧ p.1 < n ∧ p.2 < n := by
  cases d with
  | tup ds =>
    simp only [isPair, Bool.and_eq_true, decide_eq_true_iff] at h
    obtain ⟨h1, h2⟩ := h
    match ds, h1, h2 with
    | [x, y], _, h2 =>
      simp only [List.all_cons, List.all_nil, Bool.and_true, Bool.and_eq_true] at h2
      obtain ⟨h3, h4⟩ := h2
      obtain ⟨i, rfl, hi⟩ := inR_int h3
      obtain ⟨j, rfl, hj⟩ := inR_int h4
      exact ⟨(i, j), rfl, hi, hj⟩
  | _ => cases h
theorem thing_p (n : Nat) (d : D) (h : plainD d = true) : m_is_thing [.int n, d] = pure (.bl (inR n d)) := by
  rw [is_thing_p _ d h]
  cases d <;> rfl
theorem is_pair_p {n : Nat} {d : D} (hd : plainD d = true) (hl : ∀ ds, d = .tup ds → ds.length ≤ 100 ∧ ∀ e ∈ ds, plainD e = true) : m_is_pair_of_things [.int n, d] = pure (.bl (isPair n d)) := by
  unfold m_is_pair_of_things
  refine run_ret (ret_p ?_)
  have t0 : eCall (dIsi 3) (aCons (eVar 1) (aCons (eC (.ty "tuple")) aNil)) ([D.int n, d].map Sl.sh ++ List.replicate (3 - [D.int n, d].length) Sl.un) = pure (.bl (isTup d)) := call2_p (var_p (d := d) rfl) rfl (isi_tuple d hd)
  cases d with
  | tup ds =>
    obtain ⟨h1, h2⟩ := hl ds rfl
    have l0 : dLen [.tup ds] = some (.int ds.length) := rfl
    have t1 : eBin dEq (eCall dLen (aCons (eVar 1) aNil)) (eC (.int 2)) ([D.int n, .tup ds].map Sl.sh ++ List.replicate (3 - [D.int n, .tup ds].length) Sl.un) = pure (.bl (decide ((ds.length : Int) = 2))) := bin_p (call1_p (var_p (d := .tup ds) rfl) l0) rfl (eq_ints _ _)
    have t2 : eFr (oLc (itS (eVar 1)) (gNm 2) tYes' (oLeaf (eDef 2 m_is_thing (aCons (eVar 0) (aCons (eVar 2) aNil)))) [2]) ([D.int n, .tup ds].map Sl.sh ++ List.replicate (3 - [D.int n, .tup ds].length) Sl.un) = pure (.lst (ds.map fun e => .bl (inR n e))) := by
      refine lc_all rfl (fun e he => ⟨_, rfl, ?_⟩) (by omega)
      rw [def2_p (x := .int n) (y := e) rfl rfl, thing_p n e (h2 e he)]
    have t3 : dAll [.lst (ds.map fun e => .bl (inR n e))] = some (.bl (ds.all (inR n))) := by
      show (blsD _).bind _ = _
      rw [show (ds.map fun e => D.bl (inR n e)) = (ds.map (inR n)).map D.bl by rw [List.map_map]; rfl, blsD_map]
      simp [List.all_map, Function.comp_def]
    unfold eAnd
    rw [t0, bind_p]
    show eAnd _ _ _ = _
    unfold eAnd
    rw [t1, bind_p]
    by_cases c : ds.length = 2
    · have c' : (ds.length : Int) = 2 := by omega
      simp only [c', decide_true]
      rw [call1_p t2 t3]
      simp [isPair, c]
    · have c' : ¬ ((ds.length : Int) = 2) := by omega
      simp only [c', decide_false]
      simp [isPair, c]
  | _ =>
    unfold eAnd
    rw [t0, bind_p]
    rfl
end Lk65
set_option Elab.async false
set_option linter.all false
set_option maxRecDepth 100000
set_option maxHeartbeats 4000000
namespace Lk65
open PySem L2 DL

/-- a value that a pair's judge may see -/
def Flt (d : D) : Prop := plainD d = true ∧ (isRow d = true → ∃ ds, d = .tup ds ∧ ds.length ≤ 100 ∧ ∀ e ∈ ds, isRow e = false ∧ plainD e = true)
theorem Flt.kept {d : D} (h : Flt d) : m_kept 3 [d] = pure d := by
  cases hr : isRow d with
  | false => exact kept_flat hr h.1
  | true =>
    obtain ⟨ds, rfl, h1, h2⟩ := h.2 hr
    exact kept_tup h2 (by omega)
theorem Flt.tup {d : D} (h : Flt d) : ∀ ds, d = .tup ds → ds.length ≤ 100 ∧ ∀ e ∈ ds, plainD e = true := fun ds e => by
  subst e
  obtain ⟨ds', e, h1, h2⟩ := h.2 rfl
  cases e
  exact ⟨h1, fun x hx => (h2 x hx).2⟩
theorem e_is_pair_p {n : Nat} {d : D} (h : Flt d) : m__law_e_is_pair [.int n, d] = pure (.bl (isPair n d)) := by
  have hd := h.1
  have hl := h.tup
  unfold m__law_e_is_pair
  refine run_ret ?_
  have t0 : eCall (dIsi 3) (aCons (eVar 1) (aCons (eC (.ty "tuple")) aNil)) ([D.int n, d].map Sl.sh ++ List.replicate (3 - [D.int n, d].length) Sl.un) = pure (.bl (isTup d)) := call2_p (var_p (d := d) rfl) rfl (isi_tuple d hd)
  cases d with
  | tup ds =>
    obtain ⟨h1, h2⟩ := hl ds rfl
    have l0 : dLen [.tup ds] = some (.int ds.length) := rfl
    have t1 : eBin dNe (eCall dLen (aCons (eVar 1) aNil)) (eC (.int 2)) ([D.int n, .tup ds].map Sl.sh ++ List.replicate (3 - [D.int n, .tup ds].length) Sl.un) = pure (.bl (!decide ((ds.length : Int) = 2))) := bin_p (call1_p (var_p (d := .tup ds) rfl) l0) rfl (ne_ints _ _)
    have tt : tOr' (tNot' (tBool (eCall (dIsi 3) (aCons (eVar 1) (aCons (eC (.ty "tuple")) aNil))))) (tBool (eBin dNe (eCall dLen (aCons (eVar 1) aNil)) (eC (.int 2)))) ([D.int n, .tup ds].map Sl.sh ++ List.replicate (3 - [D.int n, .tup ds].length) Sl.un) = pure (!decide ((ds.length : Int) = 2)) := by
      unfold tOr' tNot'
      simp only [bool_p t0, bind_p, isTup, Bool.not_true, Bool.false_eq_true, if_false]
      exact bool_p t1
    by_cases c : ds.length = 2
    · rw [show (!decide ((ds.length : Int) = 2)) = false by simp; omega] at tt
      refine (seq_next ((sif_f tt).trans rfl)).trans ?_
      refine ret_p ?_
      have t2 : eFr (oLc (itS (eVar 1)) (gNm 2) (tOr' (tNot' (tBool (eCall (dIsi 3) (aCons (eVar 2) (aCons (eC (.ty "int")) aNil))))) (tOr' (tBool (eCall (dIsi 3) (aCons (eVar 2) (aCons (eC (.ty "bool")) aNil)))) (tNot' (tBool (eChain dLe dLt (eC (.int 0)) (eVar 2) (eVar 0)))))) (oLeaf (eC (.int 1))) [2]) ([D.int n, .tup ds].map Sl.sh ++ List.replicate (3 - [D.int n, .tup ds].length) Sl.un) = pure (.lst ((ds.filter fun e => !inR n e).map fun _ => .int 1)) := by
        refine lc_p rfl (fun e he => ⟨_, rfl, ?_, fun _ => rfl⟩) (by omega)
        have pe := h2 e he
        have i1 := isi_int e pe
        have i2 := isi_bool e pe
        show tOr' _ _ [.sh (.int n), .sh (.tup ds), .sh e] = _
        cases e <;> simp [runD, sSeq, sRet, sAsg, sIf, sNext, sDrop, eVar, eC, eBin, eUn, eCall, eDef, eTup, eIf, eAnd, eOr, eNot, aNil, aCons, tBool, tAnd', tOr', tNot', tYes', gNm, gTp, gsC, gsN, oLeaf, itS, itR1, itE, itZ, ofO_s, bind_p, i1, i2, isInt, isBl, inR, eChain, dLe, dLt, dI2]
        rename_i i
        by_cases c0 : 0 ≤ i <;> simp [runD, sSeq, sRet, sAsg, sIf, sNext, sDrop, eVar, eC, eBin, eUn, eCall, eDef, eTup, eIf, eAnd, eOr, eNot, aNil, aCons, tBool, tAnd', tOr', tNot', tYes', gNm, gTp, gsC, gsN, oLeaf, itS, itR1, itE, itZ, ofO_s, bind_p, c0]
      rw [bin_p (z := .bl (ds.all (inR n))) t2 (y := .lst []) (eFr_lst (by simp [runD, sSeq, sRet, sAsg, sIf, sNext, sDrop, eVar, eC, eBin, eUn, eCall, eDef, eTup, eIf, eAnd, eOr, eNot, aNil, aCons, tBool, tAnd', tOr', tNot', tYes', gNm, gTp, gsC, gsN, oLeaf, itS, itR1, itE, itZ, ofO_s, bind_p]) (by simp)) ?_]
      · simp [isPair, c]
      · have e0 := eqB_lst ((ds.filter fun e => !inR n e).map fun _ => 1) []
        rw [List.map_map] at e0
        unfold dEq
        rw [show (ds.filter fun e => !inR n e).map (fun _ => D.int 1) = (ds.filter fun e => !inR n e).map (D.int ∘ fun _ => 1) from rfl, show ([] : List D) = ([] : List Int).map D.int from rfl, e0]
        simp only [Option.map_some]
        congr 2
        rw [Bool.eq_iff_iff, decide_eq_true_iff, List.map_eq_nil_iff, List.filter_eq_nil_iff, List.all_eq_true]
        constructor
        · intro q x hx
          have := q x hx
          simpa using this
        · intro q x hx
          simp [q x hx]
    · rw [show (!decide ((ds.length : Int) = 2)) = true by simp; omega] at tt
      rw [seq_ret (d := .bl false) ((sif_t tt).trans rfl)]
      simp [isPair, c]
  | _ =>
    have tt : ∀ t2, tOr' (tNot' (tBool (eCall (dIsi 3) (aCons (eVar 1) (aCons (eC (.ty "tuple")) aNil))))) t2 _ = pure true := fun t2 => by
      unfold tOr' tNot'
      rw [bool_p t0]
      rfl
    rw [seq_ret (d := .bl false) ((sif_t (tt _)).trans rfl)]
    rfl
def tieOf (d : D) : Tie := match d with
  | .tup [.int x, .int y] => (x.toNat, y.toNat)
  | _ => (0, 0)
theorem tieOf_D (p : Tie) : tieOf (tieD p) = p := by
  unfold tieD tieOf
  simp
def word (s : Str) : D := .tup [.str s]
def faultD (n : Nat) (a : Nat → Nat → Int) (o p : D) : D :=
  if isPair n o = false then word "one" else if isPair n p = false then word "other" else if srt a (tieOf o) ≠ srt a (tieOf p) then word "sort" else if cnt a n (tieOf o) ≠ cnt a n (tieOf p) then .non else word "alike"
theorem fld_p {okc : Nat → Str → Bool} {f : Str} {me : DL.Env → MM D} {ρ : DL.Env} {c : Nat} {fs : List Str} {ds : List D} {d : D} (h : me ρ = pure (.ins c fs ds)) (ho : okc c f = true) (hf : flook fs ds f = some d) : eFld okc f me ρ = pure d := by
  unfold eFld
  rw [h, bind_p]
  simp only [ho, if_true, hf]
  rfl
theorem fl_one (o p : D) : flook ["one", "other"] [o, p] "one" = some o := by with_unfolding_all rfl
theorem fl_other (o p : D) : flook ["one", "other"] [o, p] "other" = some p := by with_unfolding_all rfl
theorem ok_one : okc 2 "one" = true := by decide +kernel
theorem ok_other : okc 2 "other" = true := by decide +kernel
theorem isi_strong_not (o p : D) : dIsi 3 [notD o p, .cls 1] = some (.bl false) := rfl
theorem isi_not_not (o p : D) : dIsi 3 [notD o p, .cls 2] = some (.bl true) := rfl
theorem isi_strong_strong (k l m : D) : dIsi 3 [strongD k l m, .cls 1] = some (.bl true) := rfl
theorem isi_not_strong (k l m : D) : dIsi 3 [strongD k l m, .cls 2] = some (.bl false) := rfl
theorem strong_fault_not {n : Nat} {T : List Tie} (w : Web n T) {o p : D} (ho : Flt o) (hp : Flt p) : m_strong_fault [.int n, .lst (T.map tieD), notD o p] = pure (faultD n (tied T fun _ _ => 0) o p) := by
  have A := w.adj
  have tr := tie_rows_p w
  have io := is_pair_p (n := n) ho.1 ho.tup
  have ip := is_pair_p (n := n) hp.1 hp.tup
  obtain ⟨due, hdue⟩ : ∃ due, m_settled_strong [matD n (tied T fun _ _ => 0)] = pure due := by
    rcases strong_both w with ⟨q, p, h, _⟩ | ⟨k, l, m, _, _, _, h, _⟩
    · exact ⟨_, h⟩
    · exact ⟨_, h⟩
  generalize tied T (fun _ _ => 0) = a at A tr hdue ⊢
  unfold m_strong_fault
  refine run_ret ?_
  refine (seq_next (asg_p (d := matD n a) ((def2_p (var_p (d := .int n) rfl) (var_p (d := .lst (T.map tieD)) rfl)).trans tr))).trans ?_
  refine (seq_next (asg_p (d := due) ((def1_p (var_p (d := matD n a) rfl)).trans hdue))).trans ?_
  show sSeq _ _ [.sh (.int n), .sh (.lst (T.map tieD)), .sh (notD o p), .sh (matD n a), .sh due, .un, .un] = _
  have h2 : eVar 2 [.sh (.int n), .sh (.lst (T.map tieD)), .sh (notD o p), .sh (matD n a), .sh due, .un, .un] = pure (notD o p) := rfl
  have h0 : eVar 0 [.sh (.int n), .sh (.lst (T.map tieD)), .sh (notD o p), .sh (matD n a), .sh due, .un, .un] = pure (.int n) := rfl
  have h3 : eVar 3 [.sh (.int n), .sh (.lst (T.map tieD)), .sh (notD o p), .sh (matD n a), .sh due, .un, .un] = pure (matD n a) := rfl
  generalize ([.sh (.int n), .sh (.lst (T.map tieD)), .sh (notD o p), .sh (matD n a), .sh due, .un, .un] : DL.Env) = ρ at h0 h2 h3
  have f1 : eFld okc "one" (eVar 2) ρ = pure o := fld_p h2 ok_one (fl_one o p)
  have f2 : eFld okc "other" (eVar 2) ρ = pure p := fld_p h2 ok_other (fl_other o p)
  have c1 : tBool (eCall (dIsi 3) (aCons (eVar 2) (aCons (eC (.cls 1)) aNil))) ρ = pure false := bool_p (call2_p h2 rfl (isi_strong_not o p))
  have c2 : tNot' (tBool (eCall (dIsi 3) (aCons (eVar 2) (aCons (eC (.cls 2)) aNil)))) ρ = pure false := by
    unfold tNot'
    rw [bool_p (call2_p h2 rfl (isi_not_not o p))]
    rfl
  have c3 : tNot' (tBool (eDef 2 m_is_pair_of_things (aCons (eVar 0) (aCons (eFld okc "one" (eVar 2)) aNil)))) ρ = pure (!isPair n o) := by
    unfold tNot'
    rw [bool_p ((def2_p h0 f1).trans io)]
    rfl
  have c4 : tNot' (tBool (eDef 2 m_is_pair_of_things (aCons (eVar 0) (aCons (eFld okc "other" (eVar 2)) aNil)))) ρ = pure (!isPair n p) := by
    unfold tNot'
    rw [bool_p ((def2_p h0 f2).trans ip)]
    rfl
  have wd : ∀ (s : Str) (ρ : DL.Env), sRet (eTup (aCons (eC (.str s)) aNil)) ρ = pure (.ret (word s)) := fun s ρ => ret_p (eTup_p (ds := [.str s]) rfl (by simp))
  refine (seq_next ((sif_f c1).trans rfl)).trans ?_
  refine (seq_next ((sif_f c2).trans rfl)).trans ?_
  unfold faultD
  cases b1 : isPair n o with
  | false =>
    rw [b1] at c3
    rw [if_pos rfl]
    exact seq_ret ((sif_t c3).trans (wd _ _))
  | true =>
    rw [b1] at c3
    rw [if_neg (by decide)]
    refine (seq_next ((sif_f c3).trans rfl)).trans ?_
    cases b2 : isPair n p with
    | false =>
      rw [b2] at c4
      rw [if_pos rfl]
      exact seq_ret ((sif_t c4).trans (wd _ _))
    | true =>
      rw [b2] at c4
      rw [if_neg (by decide)]
      refine (seq_next ((sif_f c4).trans rfl)).trans ?_
      obtain ⟨u, rfl, u1, u2⟩ := pair_of b1
      obtain ⟨v, rfl, v1, v2⟩ := pair_of b2
      rw [tieOf_D, tieOf_D]
      have s1 : eDef 2 m_pair_sort (aCons (eVar 3) (aCons (eFld okc "one" (eVar 2)) aNil)) ρ = pure (.int (srt a u)) := (def2_p h3 f1).trans (pair_sort_p u1 u2)
      have s2 : eDef 2 m_pair_sort (aCons (eVar 3) (aCons (eFld okc "other" (eVar 2)) aNil)) ρ = pure (.int (srt a v)) := (def2_p h3 f2).trans (pair_sort_p v1 v2)
      have n1 : eDef 2 m_both_tied (aCons (eVar 3) (aCons (eFld okc "one" (eVar 2)) aNil)) ρ = pure (.int (cnt a n u)) := (def2_p h3 f1).trans (both_tied_p A u1 u2)
      have n2 : eDef 2 m_both_tied (aCons (eVar 3) (aCons (eFld okc "other" (eVar 2)) aNil)) ρ = pure (.int (cnt a n v)) := (def2_p h3 f2).trans (both_tied_p A v1 v2)
      have c5 := bool_p (bin_p s1 s2 (ne_ints _ _))
      by_cases e : srt a u = srt a v
      · rw [if_neg (by simpa using e)]
        rw [show (!decide (srt a u = srt a v)) = false by simp [e]] at c5
        refine (seq_next ((sif_f c5).trans rfl)).trans ?_
        have c6 := bool_p (bin_p n1 n2 (ne_ints _ _))
        refine ret_p ?_
        unfold eIf
        rw [c6, bind_p]
        by_cases e2 : cnt a n u = cnt a n v
        · rw [if_neg (by simp [e2]), if_neg (by simpa using e2)]
          exact eTup_p (ds := [.str "alike"]) rfl (by simp)
        · rw [if_pos (by simp; omega), if_pos e2]
          rfl
      · rw [if_pos e]
        rw [show (!decide (srt a u = srt a v)) = true by simp [e]] at c5
        exact seq_ret ((sif_t c5).trans (wd _ _))
end Lk65
set_option Elab.async false
set_option linter.all false
set_option maxRecDepth 100000
set_option maxHeartbeats 4000000
namespace Lk65
open PySem L2 DL

theorem law_due_p {n : Nat} {T : List Tie} (w : Web n T) {o p : D} (ho : Flt o) (hp : Flt p) : m__law_due [.int n, .lst (T.map tieD), .lst [o, p]] = pure (faultD n (tied T fun _ _ => 0) o p) := by
  have A := w.adj
  have tr := e_tied_p w
  have io := e_is_pair_p (n := n) ho
  have ip := e_is_pair_p (n := n) hp
  generalize tied T (fun _ _ => 0) = a at A tr ⊢
  unfold m__law_due
  refine run_ret ?_
  refine (seq_next (asg_p (d := matD n a) ((def2_p (var_p (d := .int n) rfl) (var_p (d := .lst (T.map tieD)) rfl)).trans tr))).trans ?_
  show sSeq _ _ [.sh (.int n), .sh (.lst (T.map tieD)), .sh (.lst [o, p]), .sh (matD n a), .un, .un, .un, .un] = _
  have g0 : eBin dSub2 (eVar 2) (eC (.int 0)) [.sh (.int n), .sh (.lst (T.map tieD)), .sh (.lst [o, p]), .sh (matD n a), .un, .un, .un, .un] = pure o := bin_p (var_p (d := .lst [o, p]) rfl) rfl (atI_at (i := 0) rfl)
  have g1 : eBin dSub2 (eVar 2) (eC (.int 1)) [.sh (.int n), .sh (.lst (T.map tieD)), .sh (.lst [o, p]), .sh (matD n a), .un, .un, .un, .un] = pure p := bin_p (var_p (d := .lst [o, p]) rfl) rfl (atI_at (i := 1) rfl)
  have c3 : tNot' (tBool (eDef 2 m__law_e_is_pair (aCons (eVar 0) (aCons (eBin dSub2 (eVar 2) (eC (.int 0))) aNil)))) [.sh (.int n), .sh (.lst (T.map tieD)), .sh (.lst [o, p]), .sh (matD n a), .un, .un, .un, .un] = pure (!isPair n o) := by
    unfold tNot'
    rw [bool_p ((def2_p (var_p (d := .int n) rfl) g0).trans io)]
    rfl
  have c4 : tNot' (tBool (eDef 2 m__law_e_is_pair (aCons (eVar 0) (aCons (eBin dSub2 (eVar 2) (eC (.int 1))) aNil)))) [.sh (.int n), .sh (.lst (T.map tieD)), .sh (.lst [o, p]), .sh (matD n a), .un, .un, .un, .un] = pure (!isPair n p) := by
    unfold tNot'
    rw [bool_p ((def2_p (var_p (d := .int n) rfl) g1).trans ip)]
    rfl
  have wd : ∀ (s : Str) (ρ : DL.Env), sRet (eTup (aCons (eC (.str s)) aNil)) ρ = pure (.ret (word s)) := fun s ρ => ret_p (eTup_p (ds := [.str s]) rfl (by simp))
  unfold faultD
  cases b1 : isPair n o with
  | false =>
    rw [b1] at c3
    rw [if_pos rfl]
    exact seq_ret ((sif_t c3).trans (wd _ _))
  | true =>
    rw [b1] at c3
    rw [if_neg (by decide)]
    refine (seq_next ((sif_f c3).trans rfl)).trans ?_
    cases b2 : isPair n p with
    | false =>
      rw [b2] at c4
      rw [if_pos rfl]
      exact seq_ret ((sif_t c4).trans (wd _ _))
    | true =>
      rw [b2] at c4
      rw [if_neg (by decide)]
      refine (seq_next ((sif_f c4).trans rfl)).trans ?_
      obtain ⟨u, rfl, u1, u2⟩ := pair_of b1
      obtain ⟨v, rfl, v1, v2⟩ := pair_of b2
      rw [tieOf_D, tieOf_D]
      have one : ∀ (q : Tie) (ρ : DL.Env), q.1 < n → q.2 < n → ρ[3]? = some (.sh (matD n a)) → ρ[6]? = some (.sh (.int q.1)) → ρ[7]? = some (.sh (.int q.2)) → eIf (tBool (eBin dEq (eVar 6) (eVar 7))) (eC (.int 0)) (eBin dSub (eC (.int 2)) (eBin dSub2 (eBin dSub2 (eVar 3) (eVar 6)) (eVar 7))) ρ = pure (.int (srt a q)) := fun q ρ q1 q2 h3 h6 h7 => by
        unfold eIf srt
        rw [bool_p (bin_p (var_p h6) (var_p h7) (eq_ints _ _)), bind_p]
        by_cases c : q.1 = q.2
        · rw [if_pos (by simp [c]), if_pos c]; rfl
        · rw [if_neg (by simp; omega), if_neg c]
          exact bin_p (x := .int 2) rfl (bin_p (bin_p (var_p h3) (var_p h6) (mat_get q1)) (var_p h7) (row_get q2)) rfl
      have hmem : ∀ d ∈ [tieD u, tieD v], ∃ q : Tie, d = tieD q ∧ q.1 < n ∧ q.2 < n := fun d hd => by
        simp only [List.mem_cons, List.not_mem_nil, or_false] at hd
        rcases hd with rfl | rfl
        · exact ⟨u, rfl, u1, u2⟩
        · exact ⟨v, rfl, v1, v2⟩
      have s0 : eFr (oLc (itS (eVar 2)) (gTp 2 (gsC (gNm 6) (gsC (gNm 7) gsN))) tYes' (oLeaf (eIf (tBool (eBin dEq (eVar 6) (eVar 7))) (eC (.int 0)) (eBin dSub (eC (.int 2)) (eBin dSub2 (eBin dSub2 (eVar 3) (eVar 6)) (eVar 7))))) [6, 7]) [.sh (.int n), .sh (.lst (T.map tieD)), .sh (.lst [tieD u, tieD v]), .sh (matD n a), .un, .un, .un, .un] = pure (.lst [.int (srt a u), .int (srt a v)]) := by
        rw [lc_all (ds := [tieD u, tieD v]) (f := fun d => .int (srt a (tieOf d))) rfl (fun d hd => ?_) (by simp)]
        · simp only [List.map_cons, List.map_nil, tieOf_D]
        · obtain ⟨q, rfl, q1, q2⟩ := hmem d hd
          exact ⟨_, rfl, by rw [tieOf_D]; exact one q _ q1 q2 rfl rfl rfl⟩
      refine (seq_next (asg_p s0)).trans ?_
      show sSeq _ _ [.sh (.int n), .sh (.lst (T.map tieD)), .sh (.lst [tieD u, tieD v]), .sh (matD n a), .sh (.lst [.int (srt a u), .int (srt a v)]), .un, .un, .un] = _
      have k0 : eBin dSub2 (eVar 4) (eC (.int 0)) [.sh (.int n), .sh (.lst (T.map tieD)), .sh (.lst [tieD u, tieD v]), .sh (matD n a), .sh (.lst [.int (srt a u), .int (srt a v)]), .un, .un, .un] = pure (.int (srt a u)) := bin_p (var_p (d := .lst [.int (srt a u), .int (srt a v)]) rfl) rfl (atI_at (i := 0) rfl)
      have k1 : eBin dSub2 (eVar 4) (eC (.int 1)) [.sh (.int n), .sh (.lst (T.map tieD)), .sh (.lst [tieD u, tieD v]), .sh (matD n a), .sh (.lst [.int (srt a u), .int (srt a v)]), .un, .un, .un] = pure (.int (srt a v)) := bin_p (var_p (d := .lst [.int (srt a u), .int (srt a v)]) rfl) rfl (atI_at (i := 1) rfl)
      have c5 := bool_p (bin_p k0 k1 (ne_ints _ _))
      have s1 : eFr (oLc (itS (eVar 2)) (gTp 2 (gsC (gNm 6) (gsC (gNm 7) gsN))) tYes' (oLeaf (eDef 3 m__law_e_both (aCons (eVar 3) (aCons (eVar 6) (aCons (eVar 7) aNil))))) [6, 7]) [.sh (.int n), .sh (.lst (T.map tieD)), .sh (.lst [tieD u, tieD v]), .sh (matD n a), .sh (.lst [.int (srt a u), .int (srt a v)]), .un, .un, .un] = pure (.lst [.int (cnt a n u), .int (cnt a n v)]) := by
        rw [lc_all (ds := [tieD u, tieD v]) (f := fun d => .int (cnt a n (tieOf d))) rfl (fun d hd => ?_) (by simp)]
        · simp only [List.map_cons, List.map_nil, tieOf_D]
        · obtain ⟨q, rfl, q1, q2⟩ := hmem d hd
          refine ⟨_, rfl, ?_⟩
          rw [tieOf_D]
          exact (def3_p (x := matD n a) (y := .int q.1) (z := .int q.2) rfl rfl rfl).trans (e_both_p A q1 q2)
      by_cases e : srt a u = srt a v
      · rw [if_neg (by simpa using e)]
        rw [show (!decide (srt a u = srt a v)) = false by simp [e]] at c5
        refine (seq_next ((sif_f c5).trans rfl)).trans ?_
        refine (seq_next (asg_p s1)).trans ?_
        show sRet _ [.sh (.int n), .sh (.lst (T.map tieD)), .sh (.lst [tieD u, tieD v]), .sh (matD n a), .sh (.lst [.int (srt a u), .int (srt a v)]), .sh (.lst [.int (cnt a n u), .int (cnt a n v)]), .un, .un] = _
        have l0 : eBin dSub2 (eVar 5) (eC (.int 0)) [.sh (.int n), .sh (.lst (T.map tieD)), .sh (.lst [tieD u, tieD v]), .sh (matD n a), .sh (.lst [.int (srt a u), .int (srt a v)]), .sh (.lst [.int (cnt a n u), .int (cnt a n v)]), .un, .un] = pure (.int (cnt a n u)) := bin_p (var_p (d := .lst [.int (cnt a n u), .int (cnt a n v)]) rfl) rfl (atI_at (i := 0) rfl)
        have l1 : eBin dSub2 (eVar 5) (eC (.int 1)) [.sh (.int n), .sh (.lst (T.map tieD)), .sh (.lst [tieD u, tieD v]), .sh (matD n a), .sh (.lst [.int (srt a u), .int (srt a v)]), .sh (.lst [.int (cnt a n u), .int (cnt a n v)]), .un, .un] = pure (.int (cnt a n v)) := bin_p (var_p (d := .lst [.int (cnt a n u), .int (cnt a n v)]) rfl) rfl (atI_at (i := 1) rfl)
        have c6 := bool_p (bin_p l0 l1 (eq_ints _ _))
        refine ret_p ?_
        unfold eIf
        rw [c6, bind_p]
        by_cases e2 : cnt a n u = cnt a n v
        · rw [if_pos (by simp [e2]), if_neg (by simpa using e2)]
          exact eTup_p (ds := [.str "alike"]) rfl (by simp)
        · rw [if_neg (by simp; omega), if_pos e2]
          rfl
      · rw [if_pos e]
        rw [show (!decide (srt a u = srt a v)) = true by simp [e]] at c5
        exact seq_ret ((sif_t c5).trans (wd _ _))
end Lk65
set_option Elab.async false
set_option linter.all false
set_option maxRecDepth 100000
set_option maxHeartbeats 4000000
namespace Lk65
open PySem L2 DL

inductive Small : D → Prop where
  | non : Small .non
  | int (i : Int) : Small (.int i)
  | bl (b : Bool) : Small (.bl b)
  | one : Small (.str "1")
theorem Small.py {d : D} (h : Small d) : ∃ p, toPy d = some p ∧ p.canLay0 = true ∧ p.depth = 0 := by
  cases h with
  | non => exact ⟨_, rfl, rfl, rfl⟩
  | int i => exact ⟨_, rfl, rfl, rfl⟩
  | bl b => exact ⟨_, rfl, rfl, rfl⟩
  | one => exact ⟨_, rfl, by decide +kernel, rfl⟩
theorem Num.small {d : D} (h : Num d) : Small d := by
  cases h with
  | non => exact .non
  | int c => exact .int _
theorem eq3 {x y z k l m : D} (hx : Small x) (hy : Small y) (hz : Small z) (hk : Small k) (hl : Small l) (hm : Small m) : ∃ b, dEqB (.tup [x, y, z]) (.tup [k, l, m]) = some b := by
  obtain ⟨a1, b1, c1, d1⟩ := hx.py
  obtain ⟨a2, b2, c2, d2⟩ := hy.py
  obtain ⟨a3, b3, c3, d3⟩ := hz.py
  obtain ⟨a4, b4, c4, d4⟩ := hk.py
  obtain ⟨a5, b5, c5, d5⟩ := hl.py
  obtain ⟨a6, b6, c6, d6⟩ := hm.py
  refine ⟨PyData.eqv (.tuple [a1, a2, a3]) (.tuple [a4, a5, a6]), ?_⟩
  unfold dEqB
  simp [toPy, toPys, b1, b2, b3, b4, b5, b6, SeqAt.shaped, PyData.canLay0, PyData.canLayAll0, PyData.depth, PyData.depthAll, c1, c2, c3, c4, c5, c6, d1, d2, d3, d4, d5, d6]
theorem fl_k (k l m : D) : flook ["k", "l", "m"] [k, l, m] "k" = some k := by with_unfolding_all rfl
theorem fl_l (k l m : D) : flook ["k", "l", "m"] [k, l, m] "l" = some l := by with_unfolding_all rfl
theorem fl_m (k l m : D) : flook ["k", "l", "m"] [k, l, m] "m" = some m := by with_unfolding_all rfl
theorem ok_k : okc 1 "k" = true := by decide +kernel
theorem ok_l : okc 1 "l" = true := by decide +kernel
theorem ok_m : okc 1 "m" = true := by decide +kernel
theorem flds {i : Nat} {ρ : DL.Env} {k l m : D} (h : ρ[i]? = some (.sh (strongD k l m))) : eTup (aCons (eFld okc "k" (eVar i)) (aCons (eFld okc "l" (eVar i)) (aCons (eFld okc "m" (eVar i)) aNil))) ρ = pure (.tup [k, l, m]) := by
  refine eTup_p (ds := [k, l, m]) ?_ (by simp)
  have f1 : eFld okc "k" (eVar i) ρ = pure k := fld_p (var_p h) ok_k (fl_k k l m)
  have f2 : eFld okc "l" (eVar i) ρ = pure l := fld_p (var_p h) ok_l (fl_l k l m)
  have f3 : eFld okc "m" (eVar i) ρ = pure m := fld_p (var_p h) ok_m (fl_m k l m)
  unfold aCons aNil
  simp only [f1, f2, f3, bind_p]
theorem strong_eq_p {x y z k l m : D} {b : Bool} (h : dEqB (.tup [x, y, z]) (.tup [k, l, m]) = some b) : m_Strong_eq [strongD x y z, strongD k l m] = pure (.bl b) := by
  unfold m_Strong_eq
  refine run_ret (ret_p ?_)
  show eAnd _ _ [.sh (strongD x y z), .sh (strongD k l m)] = _
  have t0 : eCall (dIsi 3) (aCons (eVar 1) (aCons (eC (.cls 1)) aNil)) [.sh (strongD x y z), .sh (strongD k l m)] = pure (.bl true) := call2_p (var_p (d := strongD k l m) rfl) rfl (isi_strong_strong k l m)
  have t1 : eBin dEq (eTup (aCons (eFld okc "k" (eVar 0)) (aCons (eFld okc "l" (eVar 0)) (aCons (eFld okc "m" (eVar 0)) aNil)))) (eTup (aCons (eFld okc "k" (eVar 1)) (aCons (eFld okc "l" (eVar 1)) (aCons (eFld okc "m" (eVar 1)) aNil)))) [.sh (strongD x y z), .sh (strongD k l m)] = pure (.bl b) := bin_p (flds (i := 0) rfl) (flds (i := 1) rfl) (by unfold dEq; rw [h]; rfl)
  unfold eAnd
  rw [t0, bind_p]
  exact t1
theorem isi_bool_small {d : D} (h : Small d) : dIsi 3 [d, .ty "bool"] = some (.bl (isBl d)) := isi_bool d (by cases h <;> rfl)
theorem any3 (a b c : Bool) : dAny [.lst [.bl a, .bl b, .bl c]] = some (.bl (a || (b || c))) := by
  simp [dAny, dBls, blsD]
theorem strong_fault_none {n : Nat} {T : List Tie} (w : Web n T) {x y z : D} {q p : Tie} (hs : m_settled_strong [matD n (tied T fun _ _ => 0)] = pure (notD (tieD q) (tieD p))) : m_strong_fault [.int n, .lst (T.map tieD), strongD x y z] = pure (word "strong") := by
  have tr := tie_rows_p w
  generalize tied T (fun _ _ => 0) = a at tr hs
  unfold m_strong_fault
  refine run_ret ?_
  refine (seq_next (asg_p (d := matD n a) ((def2_p (var_p (d := .int n) rfl) (var_p (d := .lst (T.map tieD)) rfl)).trans tr))).trans ?_
  refine (seq_next (asg_p (d := notD (tieD q) (tieD p)) ((def1_p (var_p (d := matD n a) rfl)).trans hs))).trans ?_
  show sSeq _ _ [.sh (.int n), .sh (.lst (T.map tieD)), .sh (strongD x y z), .sh (matD n a), .sh (notD (tieD q) (tieD p)), .un, .un] = _
  have h2 : eVar 2 [.sh (.int n), .sh (.lst (T.map tieD)), .sh (strongD x y z), .sh (matD n a), .sh (notD (tieD q) (tieD p)), .un, .un] = pure (strongD x y z) := rfl
  have h4 : eVar 4 [.sh (.int n), .sh (.lst (T.map tieD)), .sh (strongD x y z), .sh (matD n a), .sh (notD (tieD q) (tieD p)), .un, .un] = pure (notD (tieD q) (tieD p)) := rfl
  generalize ([.sh (.int n), .sh (.lst (T.map tieD)), .sh (strongD x y z), .sh (matD n a), .sh (notD (tieD q) (tieD p)), .un, .un] : DL.Env) = ρ at h2 h4
  have c1 : tBool (eCall (dIsi 3) (aCons (eVar 2) (aCons (eC (.cls 1)) aNil))) ρ = pure true := bool_p (call2_p h2 rfl (isi_strong_strong x y z))
  have c2 : tBool (eCall (dIsi 3) (aCons (eVar 4) (aCons (eC (.cls 2)) aNil))) ρ = pure true := bool_p (call2_p h4 rfl (isi_not_not _ _))
  refine seq_ret ((sif_t c1).trans ?_)
  refine seq_ret ((sif_t c2).trans ?_)
  exact ret_p (eTup_p (ds := [.str "strong"]) rfl (by simp))
theorem strong_fault_some {n : Nat} {T : List Tie} (w : Web n T) {x y z k l m : D} {b : Bool} (hx : Small x) (hy : Small y) (hz : Small z) (hs : m_settled_strong [matD n (tied T fun _ _ => 0)] = pure (strongD k l m)) (he : dEqB (.tup [x, y, z]) (.tup [k, l, m]) = some b) :
    m_strong_fault [.int n, .lst (T.map tieD), strongD x y z] = pure (if b && !(isBl x || (isBl y || isBl z)) then .non else word "numbers") := by
  have tr := tie_rows_p w
  generalize tied T (fun _ _ => 0) = a at tr hs
  unfold m_strong_fault
  refine run_ret ?_
  refine (seq_next (asg_p (d := matD n a) ((def2_p (var_p (d := .int n) rfl) (var_p (d := .lst (T.map tieD)) rfl)).trans tr))).trans ?_
  refine (seq_next (asg_p (d := strongD k l m) ((def1_p (var_p (d := matD n a) rfl)).trans hs))).trans ?_
  show sSeq _ _ [.sh (.int n), .sh (.lst (T.map tieD)), .sh (strongD x y z), .sh (matD n a), .sh (strongD k l m), .un, .un] = _
  have h2 : ([.sh (.int n), .sh (.lst (T.map tieD)), .sh (strongD x y z), .sh (matD n a), .sh (strongD k l m), .un, .un] : DL.Env)[2]? = some (.sh (strongD x y z)) := rfl
  have h4 : ([.sh (.int n), .sh (.lst (T.map tieD)), .sh (strongD x y z), .sh (matD n a), .sh (strongD k l m), .un, .un] : DL.Env)[4]? = some (.sh (strongD k l m)) := rfl
  have hN : ([.sh (.int n), .sh (.lst (T.map tieD)), .sh (strongD x y z), .sh (matD n a), .sh (strongD k l m), .un, .un] : DL.Env).length = 7 := rfl
  generalize ([.sh (.int n), .sh (.lst (T.map tieD)), .sh (strongD x y z), .sh (matD n a), .sh (strongD k l m), .un, .un] : DL.Env) = ρ at h2 h4 hN
  have c1 : tBool (eCall (dIsi 3) (aCons (eVar 2) (aCons (eC (.cls 1)) aNil))) ρ = pure true := bool_p (call2_p (var_p h2) rfl (isi_strong_strong x y z))
  have c2 : tBool (eCall (dIsi 3) (aCons (eVar 4) (aCons (eC (.cls 2)) aNil))) ρ = pure false := bool_p (call2_p (var_p h4) rfl (isi_not_strong k l m))
  refine seq_ret ((sif_t c1).trans ?_)
  refine (seq_next ((sif_f c2).trans rfl)).trans ?_
  refine (seq_next (asg_p (flds h2))).trans ?_
  have k2 : (ρ.set 5 (.sh (.tup [x, y, z])))[2]? = some (.sh (strongD x y z)) := by rw [List.getElem?_set_ne (by decide)]; exact h2
  have k4 : (ρ.set 5 (.sh (.tup [x, y, z])))[4]? = some (.sh (strongD k l m)) := by rw [List.getElem?_set_ne (by decide)]; exact h4
  have k5 : (ρ.set 5 (.sh (.tup [x, y, z])))[5]? = some (.sh (.tup [x, y, z])) := by rw [List.getElem?_set_self (by omega)]
  have kN : (ρ.set 5 (.sh (.tup [x, y, z]))).length = 7 := by simpa using hN
  generalize ρ.set 5 (.sh (.tup [x, y, z])) = ρ1 at k2 k4 k5 kN
  have e1 : tBool (eOwn 3 1 false m_Strong_eq (eVar 2) (eVar 4)) ρ1 = pure b := by
    refine bool_p ?_
    have q := strong_eq_p he
    unfold eOwn
    rw [var_p k2, bind_p, var_p k4, bind_p]
    show (if 1 = 1 ∧ 1 < 3 then m_Strong_eq [strongD x y z, strongD k l m] >>= ownRes false else fail) = _
    rw [if_pos (by decide), q, bind_p]
    rfl
  have e2 : eFr (oLc (itS (eVar 5)) (gNm 6) tYes' (oLeaf (eCall (dIsi 3) (aCons (eVar 6) (aCons (eC (.ty "bool")) aNil)))) [6]) ρ1 = pure (.lst [.bl (isBl x), .bl (isBl y), .bl (isBl z)]) := by
    rw [lc_all (ds := [x, y, z]) (f := fun d => .bl (isBl d)) (by unfold itS; rw [var_p k5]; rfl) (fun d hd => ?_) (by simp)]
    · rfl
    · have sd : Small d := by
        simp only [List.mem_cons, List.not_mem_nil, or_false] at hd
        rcases hd with rfl | rfl | rfl <;> assumption
      refine ⟨_, rfl, call2_p (var_p (d := d) ?_) rfl (isi_bool_small sd)⟩
      simp only [wipeE]
      rw [List.getElem?_set_self (by simp; omega)]
  have e3 : tNot' (tBool (eCall dAny (aCons (eFr (oLc (itS (eVar 5)) (gNm 6) tYes' (oLeaf (eCall (dIsi 3) (aCons (eVar 6) (aCons (eC (.ty "bool")) aNil)))) [6])) aNil))) ρ1 = pure (!(isBl x || (isBl y || isBl z))) := by
    unfold tNot'
    rw [bool_p (call1_p e2 (any3 _ _ _))]
    rfl
  refine ret_p ?_
  unfold eIf tAnd'
  cases b with
  | true =>
    simp only [e1, bind_p, if_true, e3, Bool.true_and]
    cases hh : !(isBl x || (isBl y || isBl z)) with
    | true => simp only [if_true]; rfl
    | false =>
      simp only [Bool.false_eq_true, if_false]
      exact eTup_p (ds := [.str "numbers"]) rfl (by simp)
  | false =>
    simp only [e1, bind_p, Bool.false_eq_true, if_false, Bool.false_and]
    exact eTup_p (ds := [.str "numbers"]) rfl (by simp)
end Lk65
set_option Elab.async false
set_option linter.all false
set_option maxRecDepth 100000
set_option maxHeartbeats 4000000
namespace DL
open PySem L2

/-! ### mirrors with draws: at most k draws, whatever is drawn -/
def Good (π : Pen) : Prop := 0 ≤ π.fold ∧ π.fold < 2 ^ 32 ∧ 0 ≤ π.count
def Dr {α : Type} (k : Nat) (m : MM α) (P : α → Prop) : Prop := ∀ π : Pen, Good π → π.count + (k : Int) ≤ 2 ^ 40 → ∃ a π', m π = some (a, π') ∧ P a ∧ Good π' ∧ π'.count ≤ π.count + (k : Int)
section
variable {α β : Type} {k k2 : Nat} {m : MM α} {P P' : α → Prop} {Q : β → Prop} {f : α → MM β}
theorem Dr.ret {a : α} (h : P a) : Dr 0 (pure a) P := fun π g _ => ⟨a, π, rfl, h, g, by omega⟩
theorem Dr.mono (h : Dr k m P) (hk : k ≤ k2) (hp : ∀ a, P a → P' a) : Dr k2 m P' := fun π g c => by
  obtain ⟨a, π', h1, h2, h3, h4⟩ := h π g (by omega)
  exact ⟨a, π', h1, hp a h2, h3, by omega⟩
theorem Dr.bind (h : Dr k m P) (h2 : ∀ a, P a → Dr k2 (f a) Q) : Dr (k + k2) (m >>= f) Q := fun π g c => by
  obtain ⟨a, π1, e1, p1, g1, c1⟩ := h π g (by omega)
  obtain ⟨b, π2, e2, p2, g2, c2⟩ := h2 a p1 π1 g1 (by omega)
  exact ⟨b, π2, by rw [mm_bind, e1]; exact e2, p2, g2, by omega⟩
theorem Dr.of {a : α} (e : m = pure a) (h : P a) : Dr 0 m P := by rw [e]; exact .ret h
end
theorem dr_draw {m : Int} (h0 : 0 < m) (h1 : m < 2 ^ 60) : Dr 1 (drawM m) (fun i => 0 ≤ i ∧ i < m) := fun π g c => by
  obtain ⟨g1, g2, g3⟩ := g
  have ok : π.ok m := ⟨⟨h0, h1⟩, ⟨g1, g2⟩, g3, by omega⟩
  obtain ⟨f1, f2⟩ := fetch_ok ok
  have fc : π.tick.fetch.count = π.count + 1 := by
    unfold Pen.fetch
    split
    · split
      · split <;> rfl
      · rfl
    · rfl
  have gf : ∀ q : Pen, (q.give m).2.fold = q.fold ∧ (q.give m).2.count = q.count := fun q => by unfold Pen.give; split <;> exact ⟨rfl, rfl⟩
  have gv : ∀ q : Pen, 0 ≤ (q.give m).1 ∧ (q.give m).1 < m := fun q => by
    unfold Pen.give
    split
    · exact ⟨Int.emod_nonneg _ (by omega), Int.emod_lt_of_pos _ h0⟩
    · exact ⟨Int.emod_nonneg _ (by omega), Int.emod_lt_of_pos _ h0⟩
  refine ⟨(π.tick.fetch.give m).1, (π.tick.fetch.give m).2, ?_, gv _, ⟨?_, ?_, ?_⟩, ?_⟩
  · unfold drawM
    rw [if_pos ok]
  · rw [(gf _).1]; exact f1.1
  · rw [(gf _).1]; exact f1.2
  · rw [(gf _).2]; exact f2.1
  · rw [(gf _).2, fc]; omega
theorem dr_drawE {mg : Env → MM (List D)} {ρ : Env} {m : Int} (h : mg ρ = pure [.pen, .int m]) (h0 : 0 < m) (h1 : m < 2 ^ 60) : Dr 1 (eDraw mg ρ) (fun d => ∃ i : Nat, (i : Int) < m ∧ d = .int i) := by
  unfold eDraw
  rw [h, bind_p]
  show Dr 1 (drawM m >>= fun i => pure (D.int i)) _
  refine ((dr_draw h0 h1).bind (k2 := 0) fun i hi => .ret ?_).mono (by omega) fun _ q => q
  exact ⟨i.toNat, by omega, by rw [show ((i.toNat : Nat) : Int) = i by omega]⟩
/-- a loop, at most k draws a turn -/
theorem dr_loop {tgf : D → Env → MM Env} {body : Env → MM Out} {k : Nat} (Inv : Nat → Env → Prop) : ∀ (ds : List D) (i : Nat) (ρ : Env), (∀ j d ρ, ds[j]? = some d → Inv (i + j) ρ → ∃ ρ1, tgf d ρ = pure ρ1 ∧ Dr k (body ρ1) (fun o => ∃ ρ2, o = .next ρ2 ∧ Inv (i + j + 1) ρ2)) → Inv i ρ →
    Dr (ds.length * k) (loopM tgf body ds ρ) (fun o => ∃ ρ2, o = .next ρ2 ∧ Inv (i + ds.length) ρ2)
  | [], i, ρ, _, h => by
    rw [List.length_nil, Nat.zero_mul]
    exact .ret ⟨ρ, rfl, h⟩
  | d :: ds, i, ρ, ok, h => by
    obtain ⟨ρ1, h1, h2⟩ := ok 0 d ρ rfl h
    unfold loopM
    rw [h1, bind_p, List.length_cons, Nat.add_mul, Nat.one_mul, Nat.add_comm]
    refine h2.bind fun o ho => ?_
    obtain ⟨ρ2, rfl, h3⟩ := ho
    have := dr_loop (k := k) Inv ds (i + 1) ρ2 (fun j d ρ hj q => by
      have := ok (j + 1) d ρ (by simpa using hj) (by rw [show i + (j + 1) = i + 1 + j by omega]; exact q)
      rw [show i + (j + 1) + 1 = i + 1 + j + 1 by omega] at this
      exact this) h3
    rw [show i + (ds.length + 1) = i + 1 + ds.length by omega]
    exact this
/-- a comprehension whose test draws -/
theorem dr_lc {it : Env → MM (List D)} {tgf : D → Env → MM Env} {mt : Env → MM Bool} {mo : Env → MM M} {vs : List Nat} {ρ : Env} {ds : List D} {f : D → D} {k : Nat} (hi : it ρ = pure ds)
    (h : ∀ d ∈ ds, ∃ ρ1, tgf d (wipeE ρ vs) = pure ρ1 ∧ Dr k (mt ρ1) (fun _ => True) ∧ mo ρ1 = pure (.leaf (f d))) (hl : ds.length ≤ 100000) : Dr (ds.length * k) (eFr (oLc it tgf mt mo vs) ρ) (fun d => ∃ es, List.Sublist es ds ∧ d = .lst (es.map f)) := by
  have e : ∀ es : List D, (∀ d ∈ es, ∃ ρ1, tgf d (wipeE ρ vs) = pure ρ1 ∧ Dr k (mt ρ1) (fun _ => True) ∧ mo ρ1 = pure (.leaf (f d))) → Dr (es.length * k) (lcM tgf mt mo (wipeE ρ vs) es) (fun xs => ∃ us, List.Sublist us es ∧ xs = (us.map f).map M.leaf) := by
    intro es
    induction es with
    | nil =>
      intro _
      rw [List.length_nil, Nat.zero_mul]
      exact .ret ⟨[], .slnil, rfl⟩
    | cons d r ih =>
      intro q
      obtain ⟨ρ1, h1, h2, h3⟩ := q d (by simp)
      have ih' := ih fun z hz => q z (List.mem_cons_of_mem _ hz)
      unfold lcM
      rw [h1, bind_p, List.length_cons, Nat.add_mul, Nat.one_mul, Nat.add_comm]
      refine h2.bind fun c _ => ?_
      cases c with
      | true =>
        rw [if_pos rfl, h3, bind_p]
        refine (ih'.bind (k2 := 0) fun xs hx => ?_).mono (by omega) fun _ q => q
        obtain ⟨us, u1, rfl⟩ := hx
        exact .ret ⟨d :: us, u1.cons₂ d, rfl⟩
      | false =>
        rw [if_neg (by decide)]
        refine ih'.mono (Nat.le_refl _) fun xs hx => ?_
        obtain ⟨us, u1, e⟩ := hx
        exact ⟨us, u1.cons d, e⟩
  unfold eFr oLc
  rw [hi, bind_p]
  refine (Dr.bind (Q := fun d => ∃ es, List.Sublist es ds ∧ d = .lst (es.map f)) (k2 := 0) (Dr.bind (Q := fun x => ∃ es, List.Sublist es ds ∧ x = M.lst ((es.map f).map M.leaf)) (k2 := 0) (e ds h) fun xs hx => ?_) fun x hx => .ret ?_).mono (by omega) fun _ q => q
  · obtain ⟨us, u1, rfl⟩ := hx
    rw [if_pos (by simpa using Nat.le_trans u1.length_le hl)]
    exact .ret ⟨us, u1, rfl⟩
  · obtain ⟨us, u1, rfl⟩ := hx
    exact ⟨us, u1, toD_leafs _⟩
end DL
set_option Elab.async false
set_option linter.all false
set_option maxRecDepth 100000
set_option maxHeartbeats 4000000
namespace Lk65
open PySem L2 DL

theorem args2 {e1 e2 : DL.Env → MM D} {ρ : DL.Env} {x y : D} (h1 : e1 ρ = pure x) (h2 : e2 ρ = pure y) : aCons e1 (aCons e2 aNil) ρ = pure [x, y] := by
  unfold aCons aNil
  simp only [h1, h2, bind_p]
theorem args1 {e1 : DL.Env → MM D} {ρ : DL.Env} {x : D} (h1 : e1 ρ = pure x) : aCons e1 aNil ρ = pure [x] := by
  unfold aCons aNil
  simp only [h1, bind_p]
theorem dr_run {k N : Nat} {ms : DL.Env → MM Out} {ds : List D} {env : DL.Env} {P : D → Prop} (he : ds.map Sl.sh ++ List.replicate (N - ds.length) Sl.un = env) (h : Dr k (ms env) (fun o => ∃ d, o = .ret d ∧ P d)) : Dr k (runD N ms ds) P := by
  unfold runD
  rw [he]
  refine (h.bind (k2 := 0) fun o ho => ?_).mono (by omega) fun _ q => q
  obtain ⟨d, rfl, hd⟩ := ho
  exact .ret hd
/-- _law_pick -/
theorem pick_p {ds : List D} (h : ds ≠ []) (hl : ds.length ≤ 100000) : Dr 1 (m__law_pick [.pen, .lst ds]) (fun d => d ∈ ds) := by
  have hpos : 0 < ds.length := List.length_pos_iff.mpr h
  unfold m__law_pick runD
  show Dr 1 (sRet _ [.sh .pen, .sh (.lst ds)] >>= _) _
  have l0 : eCall dLen (aCons (eVar 1) aNil) [.sh .pen, .sh (.lst ds)] = pure (.int ds.length) := call1_p (var_p (d := .lst ds) rfl) rfl
  have dr := dr_drawE (ρ := [.sh .pen, .sh (.lst ds)]) (args2 (e1 := eVar 0) (e2 := eCall dLen (aCons (eVar 1) aNil)) (var_p (d := .pen) rfl) l0) (by omega) (by omega)
  have e1 : Dr 1 (eBin dSub2 (eVar 1) (eDraw (aCons (eVar 0) (aCons (eCall dLen (aCons (eVar 1) aNil)) aNil))) [.sh .pen, .sh (.lst ds)]) (fun d => d ∈ ds) := by
    unfold eBin
    rw [var_p (d := .lst ds) rfl, bind_p]
    refine (dr.bind (k2 := 0) fun d hd => ?_).mono (by omega) fun _ q => q
    obtain ⟨i, hi, rfl⟩ := hd
    have hi' : i < ds.length := by omega
    have : dSub2 (.lst ds) (.int i) = some ds[i] := atI_at (List.getElem?_eq_getElem hi')
    rw [this]
    exact .ret (List.getElem_mem hi')
  unfold sRet
  refine (Dr.bind (Q := fun d => d ∈ ds) (k2 := 0) (Dr.bind (Q := fun o => ∃ d, o = Out.ret d ∧ d ∈ ds) (k2 := 0) e1 fun d hd => .ret ⟨d, rfl, hd⟩) fun o ho => ?_).mono (by omega) fun _ q => q
  obtain ⟨d, rfl, hd⟩ := ho
  exact .ret hd
/-- lists of leafs in slots -/
theorem lstAt_p {i : Nat} {ρ : DL.Env} {ds : List D} (h : ρ[i]? = some (.ow (.lst (ds.map .leaf)))) : lstAt i ρ = some ds := by
  have ho : ownAt i ρ = some (.lst (ds.map .leaf)) := by unfold ownAt; rw [h]
  unfold lstAt
  rw [ho]
  exact leafsOf_map ds
theorem seqIdx_nat {n l : Nat} (h : n < l) : seqIndex? (n : Int) l = some n := by
  unfold seqIndex?
  simp
  omega
theorem cons_erase_perm {α : Type} : ∀ (l : List α) (i : Nat) (h : i < l.length), List.Perm (l[i] :: l.eraseIdx i) l
  | x :: l, 0, _ => List.Perm.refl _
  | x :: l, i + 1, h => (List.Perm.swap x _ _).trans ((cons_erase_perm l i (by simpa using h)).cons x)
/-- found.append(rest.pop(draw)), in the fashion of _law_shuffled -/
theorem shuffled_p {xs : List D} (hl : xs.length ≤ 1000) : Dr xs.length (m__law_shuffled [.pen, .lst xs]) (fun d => ∃ ys : List D, List.Perm ys xs ∧ d = .lst ys) := by
  have lp := dr_loop (k := 1) (tgf := gNm 4) (body := sAppPop 3 2 (eDraw (aCons (eVar 0) (aCons (eAll (eCall dLen (aCons (eVar 2) aNil))) aNil))))
    (fun i ρ => ∃ rest found : List D, ρ[0]? = some (.sh .pen) ∧ ρ[2]? = some (.ow (.lst (rest.map .leaf))) ∧ ρ[3]? = some (.ow (.lst (found.map .leaf))) ∧ ρ.length = 5 ∧ List.Perm (found ++ rest) xs ∧ found.length = i)
    (rng 0 xs.length) 0 [.sh .pen, .sh (.lst xs), .ow (.lst (xs.map .leaf)), .ow (.lst []), .un] (fun j d ρ hd q => by
      obtain ⟨rest, found, h0, h2, h3, hN, hp, hf⟩ := q
      have hj : j < xs.length := by
        have := (List.getElem?_eq_some_iff.mp hd).1
        rw [rng_length] at this; exact this
      have hlen := hp.length_eq
      rw [List.length_append] at hlen
      rw [Nat.zero_add] at hf
      have hr : 0 < rest.length := by omega
      refine ⟨ρ.set 4 (.sh d), rfl, ?_⟩
      have k0 : (ρ.set 4 (.sh d))[0]? = some (.sh .pen) := by rw [List.getElem?_set_ne (by decide)]; exact h0
      have k2 : (ρ.set 4 (.sh d))[2]? = some (.ow (.lst (rest.map .leaf))) := by rw [List.getElem?_set_ne (by decide)]; exact h2
      have k3 : (ρ.set 4 (.sh d))[3]? = some (.ow (.lst (found.map .leaf))) := by rw [List.getElem?_set_ne (by decide)]; exact h3
      have kN : (ρ.set 4 (.sh d)).length = 5 := by simpa using hN
      generalize ρ.set 4 (.sh d) = ρ1 at k0 k2 k3 kN
      have ea : eAll (eCall dLen (aCons (eVar 2) aNil)) ρ1 = pure (.int rest.length) := by
        have a2 : (allSh ρ1)[2]? = some (.sh (.lst rest)) := by unfold allSh; rw [List.getElem?_map, k2, ← toD_leafs]; rfl
        unfold eAll
        rw [call1_p (var_p a2) (show dLen [.lst rest] = some (.int rest.length) from rfl), bind_p]
        rfl
      have dr := dr_drawE (ρ := ρ1) (args2 (e1 := eVar 0) (e2 := eAll (eCall dLen (aCons (eVar 2) aNil))) (var_p k0) ea) (by omega) (by omega)
      unfold sAppPop
      refine (dr.bind (k2 := 0) fun v hv => ?_).mono (by omega) fun _ q => q
      obtain ⟨i, hi, rfl⟩ := hv
      have hi' : i < rest.length := by omega
      simp only [lstAt_p k2, lstAt_p k3]
      rw [if_pos ⟨by omega, by omega, by decide⟩, seqIdx_nat hi']
      simp only [List.getElem?_eq_getElem hi']
      refine .ret ⟨_, rfl, rest.eraseIdx i, found ++ [rest[i]], ?_, ?_, ?_, ?_, ?_, ?_⟩
      · rw [List.getElem?_set_ne (by decide), List.getElem?_set_ne (by decide)]; exact k0
      · rw [List.getElem?_set_ne (by decide), List.getElem?_set_self (by omega)]
      · rw [List.getElem?_set_self (by simp; omega)]
      · simpa using kN
      · refine List.Perm.trans ?_ hp
        rw [List.append_assoc]
        refine List.Perm.append_left found ?_
        exact cons_erase_perm rest i hi'
      · rw [List.length_append, List.length_singleton, hf]; omega) ⟨xs, [], rfl, rfl, rfl, rfl, by simp, rfl⟩
  rw [rng_length, Nat.mul_one, Nat.zero_add] at lp
  have p0 : sParO 2 3 (oaCons (oListA (aCons (eVar 1) aNil)) (oaCons (oLst aNil) oaNil)) [.sh .pen, .sh (.lst xs), .un, .un, .un] = pure (.next [.sh .pen, .sh (.lst xs), .ow (.lst (xs.map .leaf)), .ow (.lst []), .un]) := by
    have e1 : oListA (aCons (eVar 1) aNil) [.sh .pen, .sh (.lst xs), .un, .un, .un] = pure (.lst (xs.map .leaf)) := by
      unfold oListA aCons aNil
      rw [var_p (d := .lst xs) rfl]
      rfl
    have e2 : oLst aNil [.sh .pen, .sh (.lst xs), .un, .un, .un] = pure (.lst []) := by
      unfold oLst aNil
      simp only [bind_p]
      rw [if_pos (by simp)]
      rfl
    rw [parO_p e1 e2]
    rfl
  have it : itR1 (aCons (eCall dLen (aCons (eVar 1) aNil)) aNil) [.sh .pen, .sh (.lst xs), .ow (.lst (xs.map .leaf)), .ow (.lst []), .un] = pure (rng 0 xs.length) := by
    refine itR1_p (n := xs.length) (z := (xs.length : Int)) ?_ rfl (by omega)
    have : eCall dLen (aCons (eVar 1) aNil) [.sh .pen, .sh (.lst xs), .ow (.lst (xs.map .leaf)), .ow (.lst []), .un] = pure (.int xs.length) := call1_p (var_p (d := .lst xs) rfl) rfl
    exact args1 this
  have body : Dr xs.length (sSeq (sFor (itR1 (aCons (eCall dLen (aCons (eVar 1) aNil)) aNil)) (gNm 4) (sAppPop 3 2 (eDraw (aCons (eVar 0) (aCons (eAll (eCall dLen (aCons (eVar 2) aNil))) aNil)))))
    (sFrz 3 (sRet (eVar 3))) [.sh .pen, .sh (.lst xs), .ow (.lst (xs.map .leaf)), .ow (.lst []), .un]) (fun o => ∃ ys : List D, List.Perm ys xs ∧ o = .ret (.lst ys)) := by
    unfold sSeq
    rw [for_p it]
    refine (lp.bind (k2 := 0) fun o ho => ?_).mono (by omega) fun _ q => q
    obtain ⟨ρ2, rfl, rest, found, h0, h2, h3, hN, hp, hf⟩ := ho
    have hlen := hp.length_eq
    rw [List.length_append] at hlen
    have hr : rest = [] := List.length_eq_zero_iff.mp (by omega)
    subst hr
    rw [List.append_nil] at hp
    refine .of (a := .ret (.lst found)) ?_ ⟨found, hp, rfl⟩
    show sRet (eVar 3) (frz 3 ρ2) = _
    rw [frz_at h3, toD_leafs]
    exact ret_p (var_p (by rw [List.getElem?_set_self (by omega)]))
  unfold m__law_shuffled
  refine dr_run (env := [.sh .pen, .sh (.lst xs), .un, .un, .un]) rfl ?_
  rw [seq_next p0]
  refine body.mono (Nat.le_refl _) fun o ho => ?_
  obtain ⟨ys, hp, rfl⟩ := ho
  exact ⟨_, rfl, ys, hp, rfl⟩
end Lk65
set_option Elab.async false
set_option linter.all false
set_option maxRecDepth 100000
set_option maxHeartbeats 4000000
namespace Lk65
open PySem L2 DL

def te0 : DL.Env → MM D := (eFr (oLc (itS (eDef 1 m__law_e_pairs (aCons (eCall dLen (aCons (eVar 2) aNil)) aNil))) (gTp 2 (gsC (gNm 10) (gsC (gNm 11) gsN))) (tBool (eBin dEq (eDef 2 m__law_e_missing (aCons (eBin dSub2 (eVar 2) (eVar 10)) (aCons (eBin dSub2 (eVar 2) (eVar 11)) aNil))) (eC (.int 1)))) (oLeaf (eTup (aCons (eVar 10) (aCons (eVar 11) aNil)))) [10, 11]))
def te1 : DL.Env → MM D := (eFr (oLc (itS (eDef 1 m__law_e_pairs (aCons (eCall dLen (aCons (eVar 2) aNil)) aNil))) (gTp 2 (gsC (gNm 10) (gsC (gNm 11) gsN))) (tBool (eBin dEq (eDef 2 m__law_e_apart (aCons (eBin dSub2 (eVar 2) (eVar 10)) (aCons (eBin dSub2 (eVar 2) (eVar 11)) aNil))) (eC (.int 1)))) (oLeaf (eTup (aCons (eVar 10) (aCons (eVar 11) aNil)))) [10, 11]))
def te2 : DL.Env → MM D := (eFr (oLc (itS (eVar 2)) (gNm 10) tYes' (oLeaf (eTup (aCons (eVar 10) (aCons (eBin dMod (eCall dInt (aCons (eBin dAdd (eVar 10) (eC (.int 1))) aNil)) (eC (.int 5))) aNil)))) [10]))
def te3 : DL.Env → MM D := (eFr (oLc (itS (eDef 1 m__law_e_pairs (aCons (eC (.int 10)) aNil))) (gTp 2 (gsC (gNm 10) (gsC (gNm 11) gsN))) (tBool (eBin dEq (eDef 2 m__law_e_missing (aCons (eBin dSub2 (eVar 2) (eVar 10)) (aCons (eBin dSub2 (eVar 2) (eVar 11)) aNil))) (eC (.int 2)))) (oLeaf (eTup (aCons (eVar 10) (aCons (eVar 11) aNil)))) [10, 11]))
def te4 : DL.Env → MM D := (eFr (oLc (itS (eDef 1 m__law_e_pairs (aCons (eBin dMul (eVar 4) (eVar 5)) aNil))) (gTp 2 (gsC (gNm 10) (gsC (gNm 11) gsN))) (tBool (eBin dEq (eBin dEq (eBin dFdiv (eVar 10) (eVar 4)) (eBin dFdiv (eVar 11) (eVar 4))) (eBin dLt (eVar 5) (eC (.int 3))))) (oLeaf (eTup (aCons (eVar 10) (aCons (eVar 11) aNil)))) [10, 11]))
theorem th_lots3 : m__law_e_lots [.int 3, .int 2] = pure (.lst [.tup [.int 0, .int 1], .tup [.int 0, .int 2], .tup [.int 1, .int 2]]) := by funext π; exact rfl
theorem ti_lots3 : te0 [.sh .pen, .sh (.int 0), .sh (.lst [.tup [.int 0, .int 1], .tup [.int 0, .int 2], .tup [.int 1, .int 2]]), .un, .un, .un, .un, .un, .un, .un, .un, .un, .un] = pure (.lst (([(1, 0), (2, 0), (2, 1)] : List Tie).map tieD)) := by funext π; exact rfl
theorem ok_lots3 : ∀ p ∈ ([(1, 0), (2, 0), (2, 1)] : List Tie), p.1 < 3 ∧ p.2 < 3 ∧ p.1 ≠ p.2 := by decide
theorem th_lots4 : m__law_e_lots [.int 4, .int 2] = pure (.lst [.tup [.int 0, .int 1], .tup [.int 0, .int 2], .tup [.int 0, .int 3], .tup [.int 1, .int 2], .tup [.int 1, .int 3], .tup [.int 2, .int 3]]) := by funext π; exact rfl
theorem ti_lots4 : te0 [.sh .pen, .sh (.int 0), .sh (.lst [.tup [.int 0, .int 1], .tup [.int 0, .int 2], .tup [.int 0, .int 3], .tup [.int 1, .int 2], .tup [.int 1, .int 3], .tup [.int 2, .int 3]]), .un, .un, .un, .un, .un, .un, .un, .un, .un, .un] = pure (.lst (([(1, 0), (2, 0), (2, 1), (3, 0), (3, 1), (4, 0), (4, 2), (4, 3), (5, 1), (5, 2), (5, 3), (5, 4)] : List Tie).map tieD)) := by funext π; exact rfl
theorem ok_lots4 : ∀ p ∈ ([(1, 0), (2, 0), (2, 1), (3, 0), (3, 1), (4, 0), (4, 2), (4, 3), (5, 1), (5, 2), (5, 3), (5, 4)] : List Tie), p.1 < 6 ∧ p.2 < 6 ∧ p.1 ≠ p.2 := by decide
theorem th_lots5 : m__law_e_lots [.int 5, .int 2] = pure (.lst [.tup [.int 0, .int 1], .tup [.int 0, .int 2], .tup [.int 0, .int 3], .tup [.int 0, .int 4], .tup [.int 1, .int 2], .tup [.int 1, .int 3], .tup [.int 1, .int 4], .tup [.int 2, .int 3], .tup [.int 2, .int 4], .tup [.int 3, .int 4]]) := by funext π; exact rfl
theorem ti_lots5 : te0 [.sh .pen, .sh (.int 0), .sh (.lst [.tup [.int 0, .int 1], .tup [.int 0, .int 2], .tup [.int 0, .int 3], .tup [.int 0, .int 4], .tup [.int 1, .int 2], .tup [.int 1, .int 3], .tup [.int 1, .int 4], .tup [.int 2, .int 3], .tup [.int 2, .int 4], .tup [.int 3, .int 4]]), .un, .un, .un, .un, .un, .un, .un, .un, .un, .un] = pure (.lst (([(1, 0), (2, 0), (2, 1), (3, 0), (3, 1), (3, 2), (4, 0), (4, 1), (5, 0), (5, 2), (5, 4), (6, 0), (6, 3), (6, 4), (6, 5), (7, 1), (7, 2), (7, 4), (7, 5), (8, 1), (8, 3), (8, 4), (8, 6), (8, 7), (9, 2), (9, 3), (9, 5), (9, 6), (9, 7), (9, 8)] : List Tie).map tieD)) := by funext π; exact rfl
theorem ok_lots5 : ∀ p ∈ ([(1, 0), (2, 0), (2, 1), (3, 0), (3, 1), (3, 2), (4, 0), (4, 1), (5, 0), (5, 2), (5, 4), (6, 0), (6, 3), (6, 4), (6, 5), (7, 1), (7, 2), (7, 4), (7, 5), (8, 1), (8, 3), (8, 4), (8, 6), (8, 7), (9, 2), (9, 3), (9, 5), (9, 6), (9, 7), (9, 8)] : List Tie), p.1 < 10 ∧ p.2 < 10 ∧ p.1 ≠ p.2 := by decide
theorem th_words2 : m__law_e_words [.int 2, .int 2] = pure (.lst [.tup [.int 0, .int 0], .tup [.int 0, .int 1], .tup [.int 1, .int 0], .tup [.int 1, .int 1]]) := by funext π; exact rfl
theorem ti_words2 : te1 [.sh .pen, .sh (.int 1), .sh (.lst [.tup [.int 0, .int 0], .tup [.int 0, .int 1], .tup [.int 1, .int 0], .tup [.int 1, .int 1]]), .un, .un, .un, .un, .un, .un, .un, .un, .un, .un] = pure (.lst (([(1, 0), (2, 0), (3, 1), (3, 2)] : List Tie).map tieD)) := by funext π; exact rfl
theorem ok_words2 : ∀ p ∈ ([(1, 0), (2, 0), (3, 1), (3, 2)] : List Tie), p.1 < 4 ∧ p.2 < 4 ∧ p.1 ≠ p.2 := by decide
theorem th_words3 : m__law_e_words [.int 2, .int 3] = pure (.lst [.tup [.int 0, .int 0], .tup [.int 0, .int 1], .tup [.int 0, .int 2], .tup [.int 1, .int 0], .tup [.int 1, .int 1], .tup [.int 1, .int 2], .tup [.int 2, .int 0], .tup [.int 2, .int 1], .tup [.int 2, .int 2]]) := by funext π; exact rfl
theorem ti_words3 : te1 [.sh .pen, .sh (.int 1), .sh (.lst [.tup [.int 0, .int 0], .tup [.int 0, .int 1], .tup [.int 0, .int 2], .tup [.int 1, .int 0], .tup [.int 1, .int 1], .tup [.int 1, .int 2], .tup [.int 2, .int 0], .tup [.int 2, .int 1], .tup [.int 2, .int 2]]), .un, .un, .un, .un, .un, .un, .un, .un, .un, .un] = pure (.lst (([(1, 0), (2, 0), (2, 1), (3, 0), (4, 1), (4, 3), (5, 2), (5, 3), (5, 4), (6, 0), (6, 3), (7, 1), (7, 4), (7, 6), (8, 2), (8, 5), (8, 6), (8, 7)] : List Tie).map tieD)) := by funext π; exact rfl
theorem ok_words3 : ∀ p ∈ ([(1, 0), (2, 0), (2, 1), (3, 0), (4, 1), (4, 3), (5, 2), (5, 3), (5, 4), (6, 0), (6, 3), (7, 1), (7, 4), (7, 6), (8, 2), (8, 5), (8, 6), (8, 7)] : List Tie), p.1 < 9 ∧ p.2 < 9 ∧ p.1 ≠ p.2 := by decide
theorem ti_ring : te2 [.sh .pen, .sh (.int 2), .sh (.lst [.int 0, .int 1, .int 2, .int 3, .int 4]), .un, .un, .un, .un, .un, .un, .un, .un, .un, .un] = pure (.lst (([(0, 1), (1, 2), (2, 3), (3, 4), (4, 0)] : List Tie).map tieD)) := by funext π; exact rfl
theorem ok_ring : ∀ p ∈ ([(0, 1), (1, 2), (2, 3), (3, 4), (4, 0)] : List Tie), p.1 < 5 ∧ p.2 < 5 ∧ p.1 ≠ p.2 := by decide
theorem ti_pete : te3 [.sh .pen, .sh (.int 3), .sh (.lst [.tup [.int 0, .int 1], .tup [.int 0, .int 2], .tup [.int 0, .int 3], .tup [.int 0, .int 4], .tup [.int 1, .int 2], .tup [.int 1, .int 3], .tup [.int 1, .int 4], .tup [.int 2, .int 3], .tup [.int 2, .int 4], .tup [.int 3, .int 4]]), .un, .un, .un, .un, .un, .un, .un, .un, .un, .un] = pure (.lst (([(4, 2), (4, 3), (5, 1), (5, 3), (6, 1), (6, 2), (7, 0), (7, 3), (7, 6), (8, 0), (8, 2), (8, 5), (9, 0), (9, 1), (9, 4)] : List Tie).map tieD)) := by funext π; exact rfl
theorem ok_pete : ∀ p ∈ ([(4, 2), (4, 3), (5, 1), (5, 3), (6, 1), (6, 2), (7, 0), (7, 3), (7, 6), (8, 0), (8, 2), (8, 5), (9, 0), (9, 1), (9, 4)] : List Tie), p.1 < 10 ∧ p.2 < 10 ∧ p.1 ≠ p.2 := by decide
theorem ti_sorts22 : te4 [.sh .pen, .sh (.int 4), .sh (.lst [.int 0, .int 1, .int 2, .int 3]), .un, .sh (.int 2), .sh (.int 2), .un, .un, .un, .un, .un, .un, .un] = pure (.lst (([(1, 0), (3, 2)] : List Tie).map tieD)) := by funext π; kernel_rfl
theorem ok_sorts22 : ∀ p ∈ ([(1, 0), (3, 2)] : List Tie), p.1 < 4 ∧ p.2 < 4 ∧ p.1 ≠ p.2 := by decide
theorem ti_sorts23 : te4 [.sh .pen, .sh (.int 4), .sh (.lst [.int 0, .int 1, .int 2, .int 3, .int 4, .int 5]), .un, .sh (.int 2), .sh (.int 3), .un, .un, .un, .un, .un, .un, .un] = pure (.lst (([(2, 0), (2, 1), (3, 0), (3, 1), (4, 0), (4, 1), (4, 2), (4, 3), (5, 0), (5, 1), (5, 2), (5, 3)] : List Tie).map tieD)) := by funext π; kernel_rfl
theorem ok_sorts23 : ∀ p ∈ ([(2, 0), (2, 1), (3, 0), (3, 1), (4, 0), (4, 1), (4, 2), (4, 3), (5, 0), (5, 1), (5, 2), (5, 3)] : List Tie), p.1 < 6 ∧ p.2 < 6 ∧ p.1 ≠ p.2 := by decide
theorem ti_sorts32 : te4 [.sh .pen, .sh (.int 4), .sh (.lst [.int 0, .int 1, .int 2, .int 3, .int 4, .int 5]), .un, .sh (.int 3), .sh (.int 2), .un, .un, .un, .un, .un, .un, .un] = pure (.lst (([(1, 0), (2, 0), (2, 1), (4, 3), (5, 3), (5, 4)] : List Tie).map tieD)) := by funext π; kernel_rfl
theorem ok_sorts32 : ∀ p ∈ ([(1, 0), (2, 0), (2, 1), (4, 3), (5, 3), (5, 4)] : List Tie), p.1 < 6 ∧ p.2 < 6 ∧ p.1 ≠ p.2 := by decide
theorem ti_sorts33 : te4 [.sh .pen, .sh (.int 4), .sh (.lst [.int 0, .int 1, .int 2, .int 3, .int 4, .int 5, .int 6, .int 7, .int 8]), .un, .sh (.int 3), .sh (.int 3), .un, .un, .un, .un, .un, .un, .un] = pure (.lst (([(3, 0), (3, 1), (3, 2), (4, 0), (4, 1), (4, 2), (5, 0), (5, 1), (5, 2), (6, 0), (6, 1), (6, 2), (6, 3), (6, 4), (6, 5), (7, 0), (7, 1), (7, 2), (7, 3), (7, 4), (7, 5), (8, 0), (8, 1), (8, 2), (8, 3), (8, 4), (8, 5)] : List Tie).map tieD)) := by funext π; kernel_rfl
theorem ok_sorts33 : ∀ p ∈ ([(3, 0), (3, 1), (3, 2), (4, 0), (4, 1), (4, 2), (5, 0), (5, 1), (5, 2), (6, 0), (6, 1), (6, 2), (6, 3), (6, 4), (6, 5), (7, 0), (7, 1), (7, 2), (7, 3), (7, 4), (7, 5), (8, 0), (8, 1), (8, 2), (8, 3), (8, 4), (8, 5)] : List Tie), p.1 < 9 ∧ p.2 < 9 ∧ p.1 ≠ p.2 := by decide
theorem ti_sorts15 : te4 [.sh .pen, .sh (.int 4), .sh (.lst [.int 0, .int 1, .int 2, .int 3, .int 4]), .un, .sh (.int 1), .sh (.int 5), .un, .un, .un, .un, .un, .un, .un] = pure (.lst (([(1, 0), (2, 0), (2, 1), (3, 0), (3, 1), (3, 2), (4, 0), (4, 1), (4, 2), (4, 3)] : List Tie).map tieD)) := by funext π; kernel_rfl
theorem ok_sorts15 : ∀ p ∈ ([(1, 0), (2, 0), (2, 1), (3, 0), (3, 1), (3, 2), (4, 0), (4, 1), (4, 2), (4, 3)] : List Tie), p.1 < 5 ∧ p.2 < 5 ∧ p.1 ≠ p.2 := by decide
theorem ti_sorts41 : te4 [.sh .pen, .sh (.int 4), .sh (.lst [.int 0, .int 1, .int 2, .int 3]), .un, .sh (.int 4), .sh (.int 1), .un, .un, .un, .un, .un, .un, .un] = pure (.lst (([(1, 0), (2, 0), (2, 1), (3, 0), (3, 1), (3, 2)] : List Tie).map tieD)) := by funext π; kernel_rfl
theorem ok_sorts41 : ∀ p ∈ ([(1, 0), (2, 0), (2, 1), (3, 0), (3, 1), (3, 2)] : List Tie), p.1 < 4 ∧ p.2 < 4 ∧ p.1 ≠ p.2 := by decide
theorem ti_sorts24 : te4 [.sh .pen, .sh (.int 4), .sh (.lst [.int 0, .int 1, .int 2, .int 3, .int 4, .int 5, .int 6, .int 7]), .un, .sh (.int 2), .sh (.int 4), .un, .un, .un, .un, .un, .un, .un] = pure (.lst (([(2, 0), (2, 1), (3, 0), (3, 1), (4, 0), (4, 1), (4, 2), (4, 3), (5, 0), (5, 1), (5, 2), (5, 3), (6, 0), (6, 1), (6, 2), (6, 3), (6, 4), (6, 5), (7, 0), (7, 1), (7, 2), (7, 3), (7, 4), (7, 5)] : List Tie).map tieD)) := by funext π; kernel_rfl
theorem ok_sorts24 : ∀ p ∈ ([(2, 0), (2, 1), (3, 0), (3, 1), (4, 0), (4, 1), (4, 2), (4, 3), (5, 0), (5, 1), (5, 2), (5, 3), (6, 0), (6, 1), (6, 2), (6, 3), (6, 4), (6, 5), (7, 0), (7, 1), (7, 2), (7, 3), (7, 4), (7, 5)] : List Tie), p.1 < 8 ∧ p.2 < 8 ∧ p.1 ≠ p.2 := by decide
end Lk65
set_option Elab.async false
set_option linter.all false
set_option maxRecDepth 100000
set_option maxHeartbeats 4000000
namespace DL
open PySem L2

/-! ### statements with draws -/
section
variable {k k2 : Nat} {m1 m2 : Env → MM Out} {mt : Env → MM Bool} {me : Env → MM D} {ρ : Env} {I : Env → Prop} {P : D → Prop} {R : Out → Prop} {i : Nat}
theorem dr_seq (h : Dr k (m1 ρ) (fun o => (∃ ρ1, o = .next ρ1 ∧ I ρ1) ∨ ∃ d, o = .ret d ∧ P d)) (h2 : ∀ ρ1, I ρ1 → Dr k2 (m2 ρ1) R) (h3 : ∀ d, P d → R (.ret d)) : Dr (k + k2) (sSeq m1 m2 ρ) R := by
  unfold sSeq
  refine h.bind fun o ho => ?_
  rcases ho with ⟨ρ1, rfl, hi⟩ | ⟨d, rfl, hd⟩
  · exact h2 ρ1 hi
  · exact (Dr.ret (h3 d hd)).mono (Nat.zero_le _) fun _ q => q
theorem dr_seqN (h : Dr k (m1 ρ) (fun o => ∃ ρ1, o = .next ρ1 ∧ I ρ1)) (h2 : ∀ ρ1, I ρ1 → Dr k2 (m2 ρ1) R) : Dr (k + k2) (sSeq m1 m2 ρ) R := by
  unfold sSeq
  refine h.bind fun o ho => ?_
  obtain ⟨ρ1, rfl, hi⟩ := ho
  exact h2 ρ1 hi
theorem dr_if (h : Dr k (mt ρ) (fun _ => True)) (h1 : Dr k2 (m1 ρ) R) (h2 : Dr k2 (m2 ρ) R) : Dr (k + k2) (sIf mt m1 m2 ρ) R := by
  unfold sIf
  refine h.bind fun c _ => ?_
  cases c with
  | true => exact h1
  | false => exact h2
theorem dr_asg (h : Dr k (me ρ) P) : Dr k (sAsg i me ρ) (fun o => ∃ ρ1, o = .next ρ1 ∧ ∃ d, P d ∧ ρ1 = ρ.set i (.sh d)) := by
  unfold sAsg
  exact (h.bind (k2 := 0) fun d hd => .ret ⟨_, rfl, d, hd, rfl⟩).mono (by omega) fun _ q => q
theorem dr_ret (h : Dr k (me ρ) P) : Dr k (sRet me ρ) (fun o => ∃ d, o = .ret d ∧ P d) := by
  unfold sRet
  exact (h.bind (k2 := 0) fun d hd => .ret ⟨d, rfl, hd⟩).mono (by omega) fun _ q => q
end
end DL
set_option Elab.async false
set_option linter.all false
set_option maxRecDepth 100000
set_option maxHeartbeats 4000000
namespace Lk65
open PySem L2 DL

theorem flt_tup {ds : List D} (hl : ds.length ≤ 100) (h : ∀ e ∈ ds, isRow e = false ∧ plainD e = true) : Flt (.tup ds) := ⟨rfl, fun _ => ⟨ds, rfl, hl, h⟩⟩
theorem flt_flat {d : D} (h : isRow d = false) (hp : plainD d = true) : Flt d := ⟨hp, fun q => by rw [h] at q; cases q⟩
def menu (n : Nat) : List D := [.non, .int 3, .tup [], .tup [.int 0], .tup [.int 0, .int n], .tup [.int (-1), .int 0], .tup [.bl true, .int 0], .tup [.int 0, .non], .tup [.int 0, .int 0, .int 0]]
theorem menu_flt (n : Nat) : ∀ d ∈ menu n, Flt d := by
  intro d hd
  simp only [menu, List.mem_cons, List.not_mem_nil, or_false] at hd
  rcases hd with rfl | rfl | rfl | rfl | rfl | rfl | rfl | rfl | rfl
  · exact flt_flat rfl rfl
  · exact flt_flat rfl rfl
  all_goals exact flt_tup (by simp) (by simp [isRow, plainD])
theorem some_pair_p {n : Nat} (h1 : 1 ≤ n) (hn : n ≤ 32) : Dr 4 (m__law_some_pair [.pen, .int n]) Flt := by
  have dr6 := dr_drawE (ρ := [.sh .pen, .sh (.int n)]) (args2 (e1 := eVar 0) (e2 := eC (.int 6)) (var_p (d := .pen) rfl) rfl) (by decide) (by decide)
  have drn := dr_drawE (ρ := [.sh .pen, .sh (.int n)]) (args2 (e1 := eVar 0) (e2 := eVar 1) (var_p (d := .pen) rfl) (var_p (d := .int n) rfl)) (by omega) (by omega)
  have tst : Dr 1 (tBool (eBin dEq (eDraw (aCons (eVar 0) (aCons (eC (.int 6)) aNil))) (eC (.int 0))) [.sh .pen, .sh (.int n)]) (fun _ => True) := by
    unfold tBool eBin
    refine (Dr.bind (Q := fun _ => True) (k2 := 0) (Dr.bind (Q := fun d => ∃ c, d = .bl c) (k2 := 0) dr6 fun d hd => ?_) fun d hd => ?_).mono (by omega) fun _ q => q
    · obtain ⟨i, _, rfl⟩ := hd
      rw [show eC (.int 0) [.sh .pen, .sh (.int n)] = pure (.int 0) from rfl, bind_p, eq_ints]
      exact .ret ⟨_, rfl⟩
    · obtain ⟨c, rfl⟩ := hd
      exact .ret trivial
  have me : eFr (oLst (aCons (eC .non) (aCons (eC (.int 3)) (aCons (eTup aNil) (aCons (eTup (aCons (eC (.int 0)) aNil)) (aCons (eTup (aCons (eC (.int 0)) (aCons (eVar 1) aNil))) (aCons (eTup (aCons (eUn dNeg (eC (.int 1))) (aCons (eC (.int 0)) aNil))) (aCons (eTup (aCons (eC (.bl true)) (aCons (eC (.int 0)) aNil))) (aCons (eTup (aCons (eC (.int 0)) (aCons (eC .non) aNil))) (aCons (eTup (aCons (eC (.int 0)) (aCons (eC (.int 0)) (aCons (eC (.int 0)) aNil)))) aNil)))))))))) [.sh .pen, .sh (.int n)] = pure (.lst (menu n)) := by
    refine eFr_lst ?_ (by simp [menu])
    funext π
    kernel_rfl
  unfold m__law_some_pair
  refine dr_run (env := [.sh .pen, .sh (.int n)]) rfl ?_
  have pk : Dr 1 (eDef 2 m__law_pick (aCons (eVar 0) (aCons (eFr (oLst (aCons (eC .non) (aCons (eC (.int 3)) (aCons (eTup aNil) (aCons (eTup (aCons (eC (.int 0)) aNil)) (aCons (eTup (aCons (eC (.int 0)) (aCons (eVar 1) aNil))) (aCons (eTup (aCons (eUn dNeg (eC (.int 1))) (aCons (eC (.int 0)) aNil))) (aCons (eTup (aCons (eC (.bl true)) (aCons (eC (.int 0)) aNil))) (aCons (eTup (aCons (eC (.int 0)) (aCons (eC .non) aNil))) (aCons (eTup (aCons (eC (.int 0)) (aCons (eC (.int 0)) (aCons (eC (.int 0)) aNil)))) aNil))))))))))) aNil)) [.sh .pen, .sh (.int n)]) Flt := by
    rw [def2_p (var_p (d := .pen) rfl) me]
    exact (pick_p (by simp [menu]) (by simp [menu])).mono (Nat.le_refl _) (menu_flt n)
  have two : Dr 2 (eTup (aCons (eDraw (aCons (eVar 0) (aCons (eVar 1) aNil))) (aCons (eDraw (aCons (eVar 0) (aCons (eVar 1) aNil))) aNil)) [.sh .pen, .sh (.int n)]) Flt := by
    unfold eTup
    refine (Dr.bind (k := 2) (k2 := 0) (P := fun ds => ∃ i j : Nat, ds = [.int i, .int j]) ?_ fun ds hd => ?_).mono (by omega) fun _ q => q
    · rw [show aCons (eDraw (aCons (eVar 0) (aCons (eVar 1) aNil))) (aCons (eDraw (aCons (eVar 0) (aCons (eVar 1) aNil))) aNil) [.sh .pen, .sh (.int n)] = (eDraw (aCons (eVar 0) (aCons (eVar 1) aNil)) [.sh .pen, .sh (.int n)] >>= fun x => eDraw (aCons (eVar 0) (aCons (eVar 1) aNil)) [.sh .pen, .sh (.int n)] >>= fun y => pure [x, y]) by
        unfold aCons aNil
        simp [bind_p]]
      refine (drn.bind (k2 := 1) fun x hx => (drn.bind (k2 := 0) fun y hy => ?_).mono (by omega) fun _ q => q).mono (by omega) fun _ q => q
      obtain ⟨i, _, rfl⟩ := hx
      obtain ⟨j, _, rfl⟩ := hy
      exact .ret ⟨i, j, rfl⟩
    · obtain ⟨i, j, rfl⟩ := hd
      rw [if_pos (by simp)]
      exact .ret (flt_tup (by simp) (by simp [isRow, plainD]))
  refine (dr_seq (k := 2) (k2 := 2) (I := fun ρ1 => ρ1 = [.sh .pen, .sh (.int n)]) (P := Flt) ?_ (fun ρ1 h => ?_) fun d hd => ⟨d, rfl, hd⟩)
  · exact dr_if tst ((dr_ret pk).mono (Nat.le_refl _) fun o ho => Or.inr ho) ((Dr.of (m := sNext [.sh .pen, .sh (.int n)]) (a := Out.next [.sh .pen, .sh (.int n)]) (P := fun o => (∃ ρ1, o = Out.next ρ1 ∧ ρ1 = [.sh .pen, .sh (.int n)]) ∨ ∃ d, o = .ret d ∧ Flt d) rfl (Or.inl ⟨_, rfl, rfl⟩)).mono (Nat.zero_le _) fun _ q => q)
  · subst h
    exact dr_ret two
end Lk65
set_option Elab.async false
set_option linter.all false
set_option maxRecDepth 100000
set_option maxHeartbeats 4000000
namespace Lk65
open PySem L2 DL

/-- a tie list fit for n -/
def Fit (n : Nat) (T : List Tie) : Prop := ∀ p ∈ T, p.1 < n ∧ p.2 < n ∧ p.1 ≠ p.2
def prT : Nat → List Tie := fun n => (List.range n).flatMap fun b => (List.range b).map fun a => (b, a)
theorem pairs_1 : m__law_e_pairs [.int 1] = pure (.lst ((prT 1).map tieD)) := by funext π; kernel_rfl
theorem pairs_2 : m__law_e_pairs [.int 2] = pure (.lst ((prT 2).map tieD)) := by funext π; kernel_rfl
theorem pairs_3 : m__law_e_pairs [.int 3] = pure (.lst ((prT 3).map tieD)) := by funext π; kernel_rfl
theorem pairs_4 : m__law_e_pairs [.int 4] = pure (.lst ((prT 4).map tieD)) := by funext π; kernel_rfl
theorem pairs_5 : m__law_e_pairs [.int 5] = pure (.lst ((prT 5).map tieD)) := by funext π; kernel_rfl
theorem pairs_6 : m__law_e_pairs [.int 6] = pure (.lst ((prT 6).map tieD)) := by funext π; kernel_rfl
theorem pairs_7 : m__law_e_pairs [.int 7] = pure (.lst ((prT 7).map tieD)) := by funext π; kernel_rfl
theorem pairs_8 : m__law_e_pairs [.int 8] = pure (.lst ((prT 8).map tieD)) := by funext π; kernel_rfl
theorem pairs_p {n : Nat} (h1 : 1 ≤ n) (h8 : n ≤ 8) : m__law_e_pairs [.int n] = pure (.lst ((prT n).map tieD)) := by
  have : n = 1 ∨ n = 2 ∨ n = 3 ∨ n = 4 ∨ n = 5 ∨ n = 6 ∨ n = 7 ∨ n = 8 := by omega
  rcases this with rfl | rfl | rfl | rfl | rfl | rfl | rfl | rfl
  · exact pairs_1
  · exact pairs_2
  · exact pairs_3
  · exact pairs_4
  · exact pairs_5
  · exact pairs_6
  · exact pairs_7
  · exact pairs_8
theorem prT_fit (n : Nat) : Fit n (prT n) := by
  intro p hp
  unfold prT at hp
  rw [List.mem_flatMap] at hp
  obtain ⟨b, hb, hp⟩ := hp
  rw [List.mem_map] at hp
  obtain ⟨a, ha, rfl⟩ := hp
  rw [List.mem_range] at hb ha
  exact ⟨hb, by simp only; omega, by simp only; omega⟩
theorem prT_len : ∀ n, n ≤ 8 → (prT n).length ≤ 28 := by decide
end Lk65
set_option Elab.async false
set_option linter.all false
set_option maxRecDepth 100000
set_option maxHeartbeats 4000000
namespace Lk65
open PySem L2 DL

theorem dr_def2 {m : List D → MM D} {e1 e2 : DL.Env → MM D} {ρ : DL.Env} {k1 k2 k3 : Nat} {P Q R : D → Prop} (h1 : Dr k1 (e1 ρ) P) (h2 : Dr k2 (e2 ρ) Q) (h : ∀ x y, P x → Q y → Dr k3 (m [x, y]) R) : Dr (k1 + (k2 + k3)) (eDef 2 m (aCons e1 (aCons e2 aNil)) ρ) R := by
  have e : eDef 2 m (aCons e1 (aCons e2 aNil)) ρ = (e1 ρ >>= fun x => e2 ρ >>= fun y => m [x, y]) := by
    unfold eDef aCons aNil
    funext π
    simp only [mm_bind]
    cases e1 ρ π with
    | none => rfl
    | some a =>
      obtain ⟨x, π1⟩ := a
      simp only
      cases e2 ρ π1 with
      | none => rfl
      | some b => rfl
  rw [e]
  exact h1.bind fun x hx => h2.bind fun y hy => h x y hx hy
theorem dr_pure {e : DL.Env → MM D} {ρ : DL.Env} {x : D} (h : e ρ = pure x) : Dr 0 (e ρ) (fun d => d = x) := .of h rfl
def te5 : DL.Env → MM D := (eFr (oLc (itS (eDef 1 m__law_e_pairs (aCons (eCall dLen (aCons (eVar 2) aNil)) aNil))) (gTp 2 (gsC (gNm 10) (gsC (gNm 11) gsN))) (tBool (eBin dEq (eDraw (aCons (eVar 0) (aCons (eC (.int 2)) aNil))) (eC (.int 0)))) (oLeaf (eTup (aCons (eVar 10) (aCons (eVar 11) aNil)))) [10, 11]))
def w0 : DL.Env → MM Out := (sSeq (sAsg 2 (eDef 2 m__law_e_lots (aCons (eDef 2 m__law_pick (aCons (eVar 0) (aCons (eFr (oLst (aCons (eC (.int 3)) (aCons (eC (.int 4)) (aCons (eC (.int 5)) aNil))))) aNil))) (aCons (eC (.int 2)) aNil)))) (sAsg 3 te0))
def w1 : DL.Env → MM Out := (sSeq (sAsg 2 (eDef 2 m__law_e_words (aCons (eC (.int 2)) (aCons (eDef 2 m__law_pick (aCons (eVar 0) (aCons (eFr (oLst (aCons (eC (.int 2)) (aCons (eC (.int 3)) aNil)))) aNil))) aNil)))) (sAsg 3 te1))
def w2 : DL.Env → MM Out := (sSeq (sAsg 2 (eFr (oRg1 (eC (.int 5))))) (sAsg 3 te2))
def w3 : DL.Env → MM Out := (sSeq (sAsg 2 (eDef 2 m__law_e_lots (aCons (eC (.int 5)) (aCons (eC (.int 2)) aNil)))) (sAsg 3 te3))
def sizes : DL.Env → MM D := (eFr (oLst (aCons (eTup (aCons (eC (.int 2)) (aCons (eC (.int 2)) aNil))) (aCons (eTup (aCons (eC (.int 2)) (aCons (eC (.int 3)) aNil))) (aCons (eTup (aCons (eC (.int 3)) (aCons (eC (.int 2)) aNil))) (aCons (eTup (aCons (eC (.int 3)) (aCons (eC (.int 3)) aNil))) (aCons (eTup (aCons (eC (.int 1)) (aCons (eC (.int 5)) aNil))) (aCons (eTup (aCons (eC (.int 4)) (aCons (eC (.int 1)) aNil))) (aCons (eTup (aCons (eC (.int 2)) (aCons (eC (.int 4)) aNil))) aNil)))))))))
def w4 : DL.Env → MM Out := (sSeq (sAsgG (gTp 2 (gsC (gNm 4) (gsC (gNm 5) gsN))) (eDef 2 m__law_pick (aCons (eVar 0) (aCons sizes aNil)))) (sSeq (sAsg 2 (eFr (oRg1 (eBin dMul (eVar 4) (eVar 5))))) (sAsg 3 te4)))
def w5 : DL.Env → MM Out := (sSeq (sAsg 2 (eFr (oRg1 (eBin dAdd (eC (.int 1)) (eDraw (aCons (eVar 0) (aCons (eC (.int 8)) aNil))))))) (sAsg 3 te5))
def st1 : DL.Env → MM Out := (sIf (tBool (eBin dEq (eVar 1) (eC (.int 0)))) w0 (sIf (tBool (eBin dEq (eVar 1) (eC (.int 1)))) w1 (sIf (tBool (eBin dEq (eVar 1) (eC (.int 2)))) w2 (sIf (tBool (eBin dEq (eVar 1) (eC (.int 3)))) w3 (sIf (tBool (eBin dEq (eVar 1) (eC (.int 4)))) w4 w5)))))
def E0 (w : Int) : DL.Env := [.sh .pen, .sh (.int w), .un, .un, .un, .un, .un, .un, .un, .un, .un, .un, .un]
def S1 (o : Out) : Prop := ∃ (w : D) (n : Nat) (ds : List D) (T : List Tie) (a b : Sl), o = .next [.sh .pen, .sh w, .sh (.lst ds), .sh (.lst (T.map tieD)), a, b, .un, .un, .un, .un, .un, .un, .un] ∧ ds.length = n ∧ 1 ≤ n ∧ n ≤ 10 ∧ Fit n T ∧ T.length ≤ 100
/-- things, then ties -/
theorem two_p {w : Int} {me te : DL.Env → MM D} {ds : List D} {T : List Tie} {a b : Sl} {n : Nat} {ρ : DL.Env} (hρ : ρ = [.sh .pen, .sh (.int w), .un, .un, a, b, .un, .un, .un, .un, .un, .un, .un]) (h1 : me ρ = pure (.lst ds))
    (h2 : te [.sh .pen, .sh (.int w), .sh (.lst ds), .un, a, b, .un, .un, .un, .un, .un, .un, .un] = pure (.lst (T.map tieD))) (hn : ds.length = n) (n1 : 1 ≤ n) (n2 : n ≤ 10) (hf : Fit n T) (ht : T.length ≤ 100) : Dr 0 (sSeq (sAsg 2 me) (sAsg 3 te) ρ) S1 := by
  subst hρ
  refine .of (a := .next [.sh .pen, .sh (.int w), .sh (.lst ds), .sh (.lst (T.map tieD)), a, b, .un, .un, .un, .un, .un, .un, .un]) ?_ ⟨_, n, ds, T, a, b, rfl, hn, n1, n2, hf, ht⟩
  rw [seq_next (asg_p h1)]
  exact asg_p h2
/-- things drawn, then ties -/
theorem drawn_p {w : Int} {me te : DL.Env → MM D} {ρ : DL.Env} {k k2 : Nat} {P : D → Prop} (h1 : Dr k (me ρ) P) (h2 : ∀ d, P d → Dr k2 (sAsg 3 te (ρ.set 2 (.sh d))) S1) : Dr (k + k2) (sSeq (sAsg 2 me) (sAsg 3 te) ρ) S1 := by
  refine dr_seqN (I := fun ρ1 => ∃ d, P d ∧ ρ1 = ρ.set 2 (.sh d)) (dr_asg h1) fun ρ1 q => ?_
  obtain ⟨d, hd, rfl⟩ := q
  exact h2 d hd
theorem ties_p {w : D} {te : DL.Env → MM D} {ds : List D} {T : List Tie} {a b : Sl} {n : Nat}
    (h2 : te [.sh .pen, .sh w, .sh (.lst ds), .un, a, b, .un, .un, .un, .un, .un, .un, .un] = pure (.lst (T.map tieD))) (hn : ds.length = n) (n1 : 1 ≤ n) (n2 : n ≤ 10) (hf : Fit n T) (ht : T.length ≤ 100) : Dr 0 (sAsg 3 te [.sh .pen, .sh w, .sh (.lst ds), .un, a, b, .un, .un, .un, .un, .un, .un, .un]) S1 :=
  .of (a := .next [.sh .pen, .sh w, .sh (.lst ds), .sh (.lst (T.map tieD)), a, b, .un, .un, .un, .un, .un, .un, .un]) (asg_p h2) ⟨_, n, ds, T, a, b, rfl, hn, n1, n2, hf, ht⟩
/-- things drawn by name, then ties -/
theorem named_p {w : Int} {m : List D → MM D} {e1 e2 te : DL.Env → MM D} {ρ : DL.Env} {k1 k2 : Nat} {P Q : D → Prop} (h1 : Dr k1 (e1 ρ) P) (h2 : Dr k2 (e2 ρ) Q) (h : ∀ x y, P x → Q y → ∃ d, m [x, y] = pure d ∧ Dr 0 (sAsg 3 te (ρ.set 2 (.sh d))) S1) :
    Dr (k1 + k2) (sSeq (sAsg 2 (eDef 2 m (aCons e1 (aCons e2 aNil)))) (sAsg 3 te) ρ) S1 := by
  refine (drawn_p (w := w) (k := k1 + (k2 + 0)) (k2 := 0) (P := fun d => Dr 0 (sAsg 3 te (ρ.set 2 (.sh d))) S1) (dr_def2 h1 h2 (k3 := 0) fun x y hx hy => ?_) fun d hd => hd).mono (by omega) fun _ q => q
  obtain ⟨d, e, hd⟩ := h x y hx hy
  exact .of e hd
theorem w0_p : Dr 1 (w0 (E0 0)) S1 := by
  refine named_p (w := 0) (k1 := 1) (k2 := 0) (P := fun d => d ∈ [D.int 3, .int 4, .int 5]) ?_ (dr_pure (x := .int 2) rfl) fun x y hx hy => ?_
  · have me : eFr (oLst (aCons (eC (.int 3)) (aCons (eC (.int 4)) (aCons (eC (.int 5)) aNil)))) (E0 0) = pure (.lst [D.int 3, .int 4, .int 5]) := rfl
    rw [def2_p (var_p (d := .pen) rfl) me]
    exact pick_p (by simp) (by simp)
  · subst hy
    simp only [List.mem_cons, List.not_mem_nil, or_false] at hx
    rcases hx with rfl | rfl | rfl
    · exact ⟨_, th_lots3, ties_p ti_lots3 rfl (by decide) (by decide) ok_lots3 (by decide)⟩
    · exact ⟨_, th_lots4, ties_p ti_lots4 rfl (by decide) (by decide) ok_lots4 (by decide)⟩
    · exact ⟨_, th_lots5, ties_p ti_lots5 rfl (by decide) (by decide) ok_lots5 (by decide)⟩
theorem w1_p : Dr 1 (w1 (E0 1)) S1 := by
  refine named_p (w := 1) (k1 := 0) (k2 := 1) (Q := fun d => d ∈ [D.int 2, .int 3]) (dr_pure (x := .int 2) rfl) ?_ fun x y hx hy => ?_
  · have me : eFr (oLst (aCons (eC (.int 2)) (aCons (eC (.int 3)) aNil))) (E0 1) = pure (.lst [D.int 2, .int 3]) := rfl
    rw [def2_p (var_p (d := .pen) rfl) me]
    exact pick_p (by simp) (by simp)
  · subst hx
    simp only [List.mem_cons, List.not_mem_nil, or_false] at hy
    rcases hy with rfl | rfl
    · exact ⟨_, th_words2, ties_p ti_words2 rfl (by decide) (by decide) ok_words2 (by decide)⟩
    · exact ⟨_, th_words3, ties_p ti_words3 rfl (by decide) (by decide) ok_words3 (by decide)⟩
theorem w2_p : Dr 0 (w2 (E0 2)) S1 :=
  two_p rfl (ds := [.int 0, .int 1, .int 2, .int 3, .int 4]) rfl ti_ring rfl (by decide) (by decide) ok_ring (by decide)
theorem w3_p : Dr 0 (w3 (E0 3)) S1 := by
  refine named_p (w := 3) (k1 := 0) (k2 := 0) (dr_pure (x := .int 5) rfl) (dr_pure (x := .int 2) rfl) fun x y hx hy => ?_
  subst hx; subst hy
  exact ⟨_, th_lots5, ties_p ti_pete rfl (by decide) (by decide) ok_pete (by decide)⟩
def sizesD : List D := [.tup [.int 2, .int 2], .tup [.int 2, .int 3], .tup [.int 3, .int 2], .tup [.int 3, .int 3], .tup [.int 1, .int 5], .tup [.int 4, .int 1], .tup [.int 2, .int 4]]
theorem w4_p : Dr 1 (w4 (E0 4)) S1 := by
  have pk : Dr 1 (eDef 2 m__law_pick (aCons (eVar 0) (aCons sizes aNil)) (E0 4)) (fun d => d ∈ sizesD) := by
    have me : sizes (E0 4) = pure (.lst sizesD) := rfl
    rw [def2_p (var_p (d := .pen) rfl) me]
    exact pick_p (by simp [sizesD]) (by simp [sizesD])
  unfold w4
  refine (dr_seqN (k := 1) (k2 := 0) (I := fun ρ1 => Dr 0 (sSeq (sAsg 2 (eFr (oRg1 (eBin dMul (eVar 4) (eVar 5))))) (sAsg 3 te4) ρ1) S1) ?_ fun ρ1 q => q).mono (by omega) fun _ q => q
  unfold sAsgG
  refine (pk.bind (k2 := 0) fun d hd => ?_).mono (by omega) fun _ q => q
  simp only [sizesD, List.mem_cons, List.not_mem_nil, or_false] at hd
  rcases hd with rfl | rfl | rfl | rfl | rfl | rfl | rfl
  · exact .ret ⟨_, rfl, two_p rfl (ds := [.int 0, .int 1, .int 2, .int 3]) (by funext π; kernel_rfl) ti_sorts22 rfl (by decide) (by decide) ok_sorts22 (by decide)⟩
  · exact .ret ⟨_, rfl, two_p rfl (ds := [.int 0, .int 1, .int 2, .int 3, .int 4, .int 5]) (by funext π; kernel_rfl) ti_sorts23 rfl (by decide) (by decide) ok_sorts23 (by decide)⟩
  · exact .ret ⟨_, rfl, two_p rfl (ds := [.int 0, .int 1, .int 2, .int 3, .int 4, .int 5]) (by funext π; kernel_rfl) ti_sorts32 rfl (by decide) (by decide) ok_sorts32 (by decide)⟩
  · exact .ret ⟨_, rfl, two_p rfl (ds := [.int 0, .int 1, .int 2, .int 3, .int 4, .int 5, .int 6, .int 7, .int 8]) (by funext π; kernel_rfl) ti_sorts33 rfl (by decide) (by decide) ok_sorts33 (by decide)⟩
  · exact .ret ⟨_, rfl, two_p rfl (ds := [.int 0, .int 1, .int 2, .int 3, .int 4]) (by funext π; kernel_rfl) ti_sorts15 rfl (by decide) (by decide) ok_sorts15 (by decide)⟩
  · exact .ret ⟨_, rfl, two_p rfl (ds := [.int 0, .int 1, .int 2, .int 3]) (by funext π; kernel_rfl) ti_sorts41 rfl (by decide) (by decide) ok_sorts41 (by decide)⟩
  · exact .ret ⟨_, rfl, two_p rfl (ds := [.int 0, .int 1, .int 2, .int 3, .int 4, .int 5, .int 6, .int 7]) (by funext π; kernel_rfl) ti_sorts24 rfl (by decide) (by decide) ok_sorts24 (by decide)⟩
theorem its_p {e : DL.Env → MM D} {ρ : DL.Env} {ds : List D} (h : e ρ = pure (.lst ds)) : itS e ρ = pure ds := by unfold itS; rw [h]; rfl
theorem def1_p' {m : List D → MM D} {e1 : DL.Env → MM D} {ρ : DL.Env} {x : D} (h1 : e1 ρ = pure x) : eDef 1 m (aCons e1 aNil) ρ = m [x] := by
  unfold eDef aCons aNil
  simp only [h1, bind_p]
  rfl
theorem te5_p {w : D} {ds : List D} {n : Nat} (hn : ds.length = n) (h1 : 1 ≤ n) (h8 : n ≤ 8) : Dr 28 (te5 [.sh .pen, .sh w, .sh (.lst ds), .un, .un, .un, .un, .un, .un, .un, .un, .un, .un]) (fun d => ∃ T, Fit n T ∧ T.length ≤ 28 ∧ d = .lst (T.map tieD)) := by
  have it : itS (eDef 1 m__law_e_pairs (aCons (eCall dLen (aCons (eVar 2) aNil)) aNil)) [.sh .pen, .sh w, .sh (.lst ds), .un, .un, .un, .un, .un, .un, .un, .un, .un, .un] = pure ((prT n).map tieD) := by
    refine its_p ?_
    have l0 : eCall dLen (aCons (eVar 2) aNil) [.sh .pen, .sh w, .sh (.lst ds), .un, .un, .un, .un, .un, .un, .un, .un, .un, .un] = pure (.int n) := by
      rw [← hn]; exact call1_p (var_p (d := .lst ds) rfl) rfl
    rw [def1_p' l0]
    exact pairs_p h1 h8
  have lim := prT_len n h8
  have := dr_lc (k := 1) (f := id) (tgf := gTp 2 (gsC (gNm 10) (gsC (gNm 11) gsN))) (mt := tBool (eBin dEq (eDraw (aCons (eVar 0) (aCons (eC (.int 2)) aNil))) (eC (.int 0)))) (mo := oLeaf (eTup (aCons (eVar 10) (aCons (eVar 11) aNil)))) (vs := [10, 11]) it (fun d hd => by
    obtain ⟨p, hp, rfl⟩ := List.mem_map.mp hd
    refine ⟨_, rfl, ?_, rfl⟩
    unfold tBool eBin
    refine (Dr.bind (Q := fun _ => True) (k2 := 0) (Dr.bind (Q := fun d => ∃ c, d = .bl c) (k2 := 0) (dr_drawE (args2 (e1 := eVar 0) (e2 := eC (.int 2)) (var_p (d := .pen) rfl) rfl) (by decide) (by decide)) fun d hd => ?_) fun d hd => ?_).mono (by omega) fun _ q => q
    · obtain ⟨i, _, rfl⟩ := hd
      rw [show ∀ ρ, eC (.int 0) ρ = pure (.int 0) from fun _ => rfl, bind_p, eq_ints]
      exact .ret ⟨_, rfl⟩
    · obtain ⟨c, rfl⟩ := hd
      exact .ret trivial) (by rw [List.length_map]; omega)
  rw [List.length_map, Nat.mul_one] at this
  refine this.mono lim fun d hd => ?_
  obtain ⟨es, hs, rfl⟩ := hd
  obtain ⟨T, hT, rfl⟩ := List.sublist_map_iff.mp hs
  exact ⟨T, fun p hp => prT_fit n p (hT.subset hp), Nat.le_trans hT.length_le lim, by rw [List.map_id]⟩
theorem w5_p (w : Int) : Dr 29 (w5 (E0 w)) S1 := by
  unfold w5
  have me : Dr 1 (eFr (oRg1 (eBin dAdd (eC (.int 1)) (eDraw (aCons (eVar 0) (aCons (eC (.int 8)) aNil))))) (E0 w)) (fun d => ∃ n : Nat, 1 ≤ n ∧ n ≤ 8 ∧ d = .lst (rng 0 n)) := by
    have dr := dr_drawE (ρ := E0 w) (args2 (e1 := eVar 0) (e2 := eC (.int 8)) (var_p (d := .pen) rfl) rfl) (by decide) (by decide)
    have ad : Dr 1 (eBin dAdd (eC (.int 1)) (eDraw (aCons (eVar 0) (aCons (eC (.int 8)) aNil))) (E0 w)) (fun d => ∃ n : Nat, 1 ≤ n ∧ n ≤ 8 ∧ d = .int n) := by
      unfold eBin
      rw [show eC (.int 1) (E0 w) = pure (.int 1) from rfl, bind_p]
      refine (dr.bind (k2 := 0) fun d hd => ?_).mono (by omega) fun _ q => q
      obtain ⟨i, hi, rfl⟩ := hd
      exact .ret ⟨i + 1, by omega, by omega, by rw [Int.natCast_add, Int.add_comm]; rfl⟩
    unfold eFr oRg1
    refine (Dr.bind (k2 := 0) (Q := fun d => ∃ n : Nat, 1 ≤ n ∧ n ≤ 8 ∧ d = .lst (rng 0 n)) ((Dr.bind (k2 := 0) (Q := fun m => ∃ n : Nat, 1 ≤ n ∧ n ≤ 8 ∧ m = .lst ((rng 0 n).map .leaf)) ad fun d hd => ?_)) fun m hm => ?_).mono (by omega) fun _ q => q
    · obtain ⟨n, n1, n8, rfl⟩ := hd
      simp only
      rw [if_pos ⟨by omega, by omega⟩, Int.toNat_natCast]
      exact .ret ⟨n, n1, n8, rfl⟩
    · obtain ⟨n, n1, n8, rfl⟩ := hm
      exact .ret ⟨n, n1, n8, toD_leafs _⟩
  refine drawn_p (w := w) (k := 1) (k2 := 28) me fun d hd => ?_
  obtain ⟨n, n1, n8, rfl⟩ := hd
  show Dr 28 (sAsg 3 te5 [.sh .pen, .sh (.int w), .sh (.lst (rng 0 n)), .un, .un, .un, .un, .un, .un, .un, .un, .un, .un]) S1
  refine (dr_asg (te5_p (by rw [rng_length]) n1 n8)).mono (Nat.le_refl _) fun o ho => ?_
  obtain ⟨ρ1, rfl, d, ⟨T, hf, hl, rfl⟩, rfl⟩ := ho
  exact ⟨_, n, rng 0 n, T, _, _, rfl, rng_length _ _, n1, by omega, hf, by omega⟩
theorem way_p (w c : Int) : tBool (eBin dEq (eVar 1) (eC (.int c))) (E0 w) = pure (decide (w = c)) := bool_p (bin_p (x := .int w) (y := .int c) rfl rfl (eq_ints _ _))
theorem st1_p (w : Int) : Dr 29 (st1 (E0 w)) S1 := by
  have t : ∀ {m1 m2 : DL.Env → MM Out} {c : Int}, w = c → sIf (tBool (eBin dEq (eVar 1) (eC (.int c)))) m1 m2 (E0 w) = m1 (E0 w) := fun h => sif_t (by rw [way_p, decide_eq_true h])
  have f : ∀ {m1 m2 : DL.Env → MM Out} {c : Int}, w ≠ c → sIf (tBool (eBin dEq (eVar 1) (eC (.int c)))) m1 m2 (E0 w) = m2 (E0 w) := fun h => sif_f (by rw [way_p, decide_eq_false h])
  unfold st1
  by_cases h0 : w = 0
  · rw [t h0, h0]; exact w0_p.mono (by decide) fun _ q => q
  rw [f h0]
  by_cases h1 : w = 1
  · rw [t h1, h1]; exact w1_p.mono (by decide) fun _ q => q
  rw [f h1]
  by_cases h2 : w = 2
  · rw [t h2, h2]; exact w2_p.mono (by decide) fun _ q => q
  rw [f h2]
  by_cases h3 : w = 3
  · rw [t h3, h3]; exact w3_p.mono (by decide) fun _ q => q
  rw [f h3]
  by_cases h4 : w = 4
  · rw [t h4, h4]; exact w4_p.mono (by decide) fun _ q => q
  rw [f h4]
  exact w5_p w
end Lk65
set_option Elab.async false
set_option linter.all false
set_option maxRecDepth 100000
set_option maxHeartbeats 4000000
namespace Lk65
open PySem L2 DL

theorem back_map {α β : Type} {f : α → β} {Q : α → Prop} : ∀ zs : List β, (∀ z ∈ zs, ∃ p, Q p ∧ z = f p) → ∃ T : List α, (∀ p ∈ T, Q p) ∧ zs = T.map f
  | [], _ => ⟨[], by simp, rfl⟩
  | z :: zs, h => by
    obtain ⟨p, hp, rfl⟩ := h z (by simp)
    obtain ⟨T, hT, rfl⟩ := back_map zs fun z hz => h z (List.mem_cons_of_mem _ hz)
    refine ⟨p :: T, ?_, rfl⟩
    intro q hq
    rcases List.mem_cons.mp hq with rfl | hq
    · exact hp
    · exact hT q hq
theorem rng_nodup (n : Nat) : (rng 0 n).Nodup := by
  unfold rng
  rw [List.nodup_iff_pairwise_ne, List.pairwise_map]
  refine List.Pairwise.imp ?_ (List.nodup_range (n := n))
  intro a b h e
  injection e with e
  omega
/-- range(n) in another order -/
theorem perm_rng {n : Nat} {ys : List D} (h : List.Perm ys (rng 0 n)) : ∃ ks : List Nat, ys = ks.map (fun k : Nat => D.int k) ∧ ks.length = n ∧ ks.Nodup ∧ ∀ k ∈ ks, k < n := by
  obtain ⟨ks, h1, h2⟩ := back_map (f := fun k : Nat => D.int k) (Q := fun k => k < n) ys (fun z hz => by
    have := h.mem_iff.mp hz
    unfold rng at this
    obtain ⟨k, hk, rfl⟩ := List.mem_map.mp this
    exact ⟨k, List.mem_range.mp hk, by rw [Int.zero_add]⟩)
  have hl := h.length_eq
  rw [rng_length, h2, List.length_map] at hl
  have nd : ys.Nodup := h.nodup_iff.mpr (rng_nodup n)
  refine ⟨ks, h2, hl, ?_, h1⟩
  rw [h2, List.nodup_iff_pairwise_ne, List.pairwise_map] at nd
  rw [List.nodup_iff_pairwise_ne]
  exact nd.imp fun {a b} h e => h (by rw [e])
/-- the range asked of a list -/
theorem rglen_p {ρ : DL.Env} {i n : Nat} {ds : List D} (h : ρ[i]? = some (.sh (.lst ds))) (hn : ds.length = n) (hl : n ≤ 1000) : eFr (oRg1 (eCall dLen (aCons (eVar i) aNil))) ρ = pure (.lst (rng 0 n)) := by
  have l0 : eCall dLen (aCons (eVar i) aNil) ρ = pure (.int n) := by rw [← hn]; exact call1_p (var_p h) rfl
  have e : oRg1 (eCall dLen (aCons (eVar i) aNil)) ρ = pure (.lst ((rng 0 n).map .leaf)) := by
    unfold oRg1
    rw [l0, bind_p]
    simp only
    rw [if_pos ⟨by omega, by omega⟩, Int.toNat_natCast]
  rw [eFr_p e, toD_leafs]
theorem rgvar_p {ρ : DL.Env} {i n : Nat} (h : ρ[i]? = some (.sh (.int n))) (hl : n ≤ 1000) : eFr (oRg1 (eVar i)) ρ = pure (.lst (rng 0 n)) := by
  have e : oRg1 (eVar i) ρ = pure (.lst ((rng 0 n).map .leaf)) := by
    unfold oRg1
    rw [var_p h, bind_p]
    simp only
    rw [if_pos ⟨by omega, by omega⟩, Int.toNat_natCast]
  rw [eFr_p e, toD_leafs]
def shuf (e : DL.Env → MM D) : DL.Env → MM D := eDef 2 m__law_shuffled (aCons (eVar 0) (aCons e aNil))
theorem shuf_p {ρ : DL.Env} {e : DL.Env → MM D} {xs : List D} (h0 : ρ[0]? = some (.sh .pen)) (h : e ρ = pure (.lst xs)) (hl : xs.length ≤ 1000) : Dr xs.length (shuf e ρ) (fun d => ∃ ys : List D, List.Perm ys xs ∧ d = .lst ys) := by
  unfold shuf
  rw [def2_p (var_p h0) h]
  exact shuffled_p hl
def mvT (ks : List Nat) (p : Tie) : Tie := (ks[p.1]?.getD 0, ks[p.2]?.getD 0)
theorem fit_mv {n : Nat} {ks : List Nat} {T : List Tie} (h : Fit n T) (hl : ks.length = n) (nd : ks.Nodup) (lt : ∀ k ∈ ks, k < n) : Fit n (T.map (mvT ks)) := by
  intro q hq
  obtain ⟨p, hp, rfl⟩ := List.mem_map.mp hq
  obtain ⟨h1, h2, h3⟩ := h p hp
  have g1 : ks[p.1]? = some ks[p.1] := List.getElem?_eq_getElem (by omega)
  have g2 : ks[p.2]? = some ks[p.2] := List.getElem?_eq_getElem (by omega)
  unfold mvT
  rw [g1, g2]
  refine ⟨lt _ (List.getElem_mem _), lt _ (List.getElem_mem _), fun e => h3 ?_⟩
  have pw := List.pairwise_iff_getElem.mp (List.nodup_iff_pairwise_ne.mp nd)
  rcases Nat.lt_trichotomy p.1 p.2 with c | c | c
  · exact absurd e (pw _ _ (by omega) (by omega) c)
  · exact c
  · exact absurd e.symm (pw _ _ (by omega) (by omega) c)
theorem dr_args2 {e1 e2 : DL.Env → MM D} {ρ : DL.Env} {x : D} {k : Nat} {Q : D → Prop} (h1 : e1 ρ = pure x) (h2 : Dr k (e2 ρ) Q) : Dr k (aCons e1 (aCons e2 aNil) ρ) (fun es => ∃ y, Q y ∧ es = [x, y]) := by
  unfold aCons aNil
  rw [h1, bind_p]
  refine (Dr.bind (k := k) (k2 := 0) (P := fun es => ∃ y, Q y ∧ es = [y]) ((Dr.bind (k2 := 0) h2 fun d hd => ?_).mono (Nat.le_refl _) fun _ q => q) fun es he => ?_).mono (Nat.le_refl _) fun _ q => q
  · exact .ret ⟨d, hd, rfl⟩
  · obtain ⟨y, hy, rfl⟩ := he
    exact .ret ⟨y, hy, rfl⟩
def p6 : DL.Env → MM Out := (sAsgG (gTp 2 (gsC (gNm 6) (gsC (gNm 7) gsN))) (eTup (aCons (eCall dLen (aCons (eVar 2) aNil)) (aCons (shuf (eFr (oRg1 (eCall dLen (aCons (eVar 2) aNil))))) aNil))))
def p3 : DL.Env → MM Out := (sAsg 3 (eFr (oLc (itS (eVar 3)) (gTp 2 (gsC (gNm 10) (gsC (gNm 11) gsN))) tYes' (oLeaf (eTup (aCons (eBin dSub2 (eVar 7) (eVar 10)) (aCons (eBin dSub2 (eVar 7) (eVar 11)) aNil)))) [10, 11])))
def E2 (w : D) (ds : List D) (a b : Sl) (T : List Tie) (n : Nat) (ks : List Nat) : DL.Env := [.sh .pen, .sh w, .sh (.lst ds), .sh (.lst (T.map tieD)), a, b, .sh (.int n), .sh (.lst (ks.map fun k : Nat => D.int k)), .un, .un, .un, .un, .un]
theorem p6_p {w : D} {ds : List D} {T : List Tie} {a b : Sl} {n : Nat} (hn : ds.length = n) (n2 : n ≤ 10) : Dr 10 (p6 [.sh .pen, .sh w, .sh (.lst ds), .sh (.lst (T.map tieD)), a, b, .un, .un, .un, .un, .un, .un, .un])
    (fun o => ∃ ρ1, o = .next ρ1 ∧ ∃ ks : List Nat, ks.length = n ∧ ks.Nodup ∧ (∀ k ∈ ks, k < n) ∧ ρ1 = E2 w ds a b T n ks) := by
  have l0 : eCall dLen (aCons (eVar 2) aNil) [.sh .pen, .sh w, .sh (.lst ds), .sh (.lst (T.map tieD)), a, b, .un, .un, .un, .un, .un, .un, .un] = pure (.int n) := by
    rw [← hn]; exact call1_p (var_p (d := .lst ds) rfl) rfl
  have sh := shuf_p (ρ := [.sh .pen, .sh w, .sh (.lst ds), .sh (.lst (T.map tieD)), a, b, .un, .un, .un, .un, .un, .un, .un]) rfl (rglen_p (i := 2) rfl hn (by omega)) (by rw [rng_length]; omega)
  rw [rng_length] at sh
  unfold p6 sAsgG eTup
  refine (Dr.bind (k := n) (k2 := 0) (Q := fun d => _) (Dr.bind (k := n) (k2 := 0) (P := fun es => ∃ ks : List Nat, ks.length = n ∧ ks.Nodup ∧ (∀ k ∈ ks, k < n) ∧ es = [.int n, .lst (ks.map fun k : Nat => D.int k)]) (Q := fun d => ∃ ks : List Nat, ks.length = n ∧ ks.Nodup ∧ (∀ k ∈ ks, k < n) ∧ d = .tup [.int n, .lst (ks.map fun k : Nat => D.int k)]) ?_ fun es he => ?_) fun d hd => ?_).mono (by omega) fun _ q => q
  · refine (dr_args2 l0 sh).mono (Nat.le_refl _) fun es he => ?_
    obtain ⟨y, ⟨ys, hp, rfl⟩, rfl⟩ := he
    obtain ⟨ks, rfl, q1, q2, q3⟩ := perm_rng hp
    exact ⟨ks, q1, q2, q3, rfl⟩
  · obtain ⟨ks, q1, q2, q3, rfl⟩ := he
    rw [if_pos (by simp)]
    exact .ret ⟨ks, q1, q2, q3, rfl⟩
  · obtain ⟨ks, q1, q2, q3, rfl⟩ := hd
    exact .ret ⟨_, rfl, ks, q1, q2, q3, rfl⟩
def mvD (ks : List Nat) : D → D
  | .tup [.int x, .int y] => tieD (mvT ks (x.toNat, y.toNat))
  | _ => .non
theorem p3_p {w : D} {ds : List D} {T : List Tie} {a b : Sl} {n : Nat} {ks : List Nat} (hf : Fit n T) (ht : T.length ≤ 100) (hl : ks.length = n) : p3 (E2 w ds a b T n ks) = pure (.next (E2 w ds a b (T.map (mvT ks)) n ks)) := by
  have : eFr (oLc (itS (eVar 3)) (gTp 2 (gsC (gNm 10) (gsC (gNm 11) gsN))) tYes' (oLeaf (eTup (aCons (eBin dSub2 (eVar 7) (eVar 10)) (aCons (eBin dSub2 (eVar 7) (eVar 11)) aNil)))) [10, 11]) (E2 w ds a b T n ks) = pure (.lst ((T.map tieD).map (mvD ks))) := by
    refine lc_all (its_p (var_p (d := .lst (T.map tieD)) rfl)) (fun d hd => ?_) (by rw [List.length_map]; omega)
    obtain ⟨p, hp, rfl⟩ := List.mem_map.mp hd
    obtain ⟨h1, h2, h3⟩ := hf p hp
    have g : ∀ i, i < n → dSub2 (.lst (ks.map fun k : Nat => D.int k)) (.int i) = some (.int (ks[i]?.getD 0 : Nat)) := fun i hi => by
      refine atI_at ?_
      rw [List.getElem?_map, List.getElem?_eq_getElem (by omega)]
      rfl
    refine ⟨_, rfl, ?_⟩
    refine eTup_p (args2 (bin_p (x := .lst (ks.map fun k : Nat => D.int k)) (y := .int p.1) rfl rfl (g p.1 h1)) (bin_p (x := .lst (ks.map fun k : Nat => D.int k)) (y := .int p.2) rfl rfl (g p.2 h2))) (by simp)
  have e2 : (T.map tieD).map (mvD ks) = (T.map (mvT ks)).map tieD := by
    rw [List.map_map, List.map_map]
    exact List.map_congr_left fun p _ => rfl
  rw [e2] at this
  exact asg_p this
end Lk65
set_option Elab.async false
set_option linter.all false
set_option maxRecDepth 100000
set_option maxHeartbeats 4000000
namespace Lk65
open PySem L2 DL

theorem dr_ifP {k k2 : Nat} {m1 m2 : DL.Env → MM Out} {mt : DL.Env → MM Bool} {ρ : DL.Env} {P : Bool → Prop} {R : Out → Prop} (h : Dr k (mt ρ) P) (h1 : P true → Dr k2 (m1 ρ) R) (h2 : P false → Dr k2 (m2 ρ) R) : Dr (k + k2) (sIf mt m1 m2 ρ) R := by
  unfold sIf
  refine h.bind fun c hc => ?_
  cases c with
  | true => exact h1 hc
  | false => exact h2 hc
theorem gt_ints (i j : Int) : dGt (.int i) (.int j) = some (.bl (decide (j < i))) := rfl
theorem lt_ints (i j : Int) : dLt (.int i) (.int j) = some (.bl (decide (i < j))) := rfl
def tC : DL.Env → MM Bool := (tAnd' (tBool (eBin dEq (eDraw (aCons (eVar 0) (aCons (eC (.int 3)) aNil))) (eC (.int 0)))) (tBool (eBin dGt (eVar 6) (eC (.int 1)))))
def p8 : DL.Env → MM Out := (sAsg 8 (eTuple (eSl (shuf (eFr (oRg1 (eVar 6)))) oNo (oYes (eC (.int 2))))))
def x9 : DL.Env → MM D := (eFr (oLc (itS (eVar 3)) (gNm 12) (tBool (eBin dNotIn (eVar 12) (eFr (oLst (aCons (eVar 8) (aCons (eBack (eVar 8)) aNil)))))) (oLeaf (eVar 12)) [12]))
def x3 : DL.Env → MM D := (eIf (tBool (eBin dLt (eCall dLen (aCons (eVar 9) aNil)) (eCall dLen (aCons (eVar 3) aNil)))) (eVar 9) (eBin dAdd (eVar 3) (eFr (oLst (aCons (eVar 8) aNil)))))
def pC : DL.Env → MM Out := (sIf tC (sSeq p8 (sSeq (sAsg 9 x9) (sAsg 3 x3))) sNext)
theorem tC_p {w : D} {ds : List D} {T : List Tie} {a b : Sl} {n : Nat} {ks : List Nat} : Dr 1 (tC (E2 w ds a b T n ks)) (fun c => c = true → 1 < n) := by
  unfold tC tAnd'
  refine (Dr.bind (k := 1) (k2 := 0) (P := fun _ => True) ?_ fun c _ => ?_).mono (by omega) fun _ q => q
  · unfold tBool eBin
    refine (Dr.bind (Q := fun _ => True) (k2 := 0) (Dr.bind (Q := fun d => ∃ c, d = .bl c) (k2 := 0) (dr_drawE (args2 (e1 := eVar 0) (e2 := eC (.int 3)) (var_p (d := .pen) rfl) rfl) (by decide) (by decide)) fun d hd => ?_) fun d hd => ?_).mono (by omega) fun _ q => q
    · obtain ⟨i, _, rfl⟩ := hd
      rw [show ∀ ρ, eC (.int 0) ρ = pure (.int 0) from fun _ => rfl, bind_p, eq_ints]
      exact .ret ⟨_, rfl⟩
    · obtain ⟨c, rfl⟩ := hd
      exact .ret trivial
  · cases c with
    | false => exact .ret (fun h => by cases h)
    | true =>
      rw [if_pos rfl, bool_p (bin_p (x := .int n) (y := .int 1) rfl rfl (gt_ints _ _))]
      exact .ret (fun h => by have := of_decide_eq_true h; omega)
theorem p8_p {w : D} {ds : List D} {T : List Tie} {a b : Sl} {n : Nat} {ks : List Nat} (n1 : 1 < n) (n2 : n ≤ 10) : Dr 10 (p8 (E2 w ds a b T n ks)) (fun o => ∃ ρ1, o = .next ρ1 ∧ ∃ x y : Nat, x < n ∧ y < n ∧ x ≠ y ∧ ρ1 = (E2 w ds a b T n ks).set 8 (.sh (tieD (x, y)))) := by
  have sh := shuf_p (ρ := E2 w ds a b T n ks) rfl (rgvar_p (i := 6) (n := n) rfl (by omega)) (by rw [rng_length]; omega)
  rw [rng_length] at sh
  unfold p8
  refine (dr_asg (k := n) (P := fun d => ∃ x y : Nat, x < n ∧ y < n ∧ x ≠ y ∧ d = tieD (x, y)) ?_).mono n2 fun o ho => ?_
  · unfold eTuple eSl
    refine (Dr.bind (k := n) (k2 := 0) (P := fun d => ∃ x y : Nat, x < n ∧ y < n ∧ x ≠ y ∧ d = .lst [.int x, .int y]) (Dr.bind (k2 := 0) sh fun d hd => ?_) fun d hd => ?_).mono (by omega) fun _ q => q
    · obtain ⟨ys, hp, rfl⟩ := hd
      obtain ⟨ls, rfl, q1, q2, q3⟩ := perm_rng hp
      match ls, q1, q2, q3 with
      | [], q1, _, _ => simp at q1; omega
      | [_], q1, _, _ => simp at q1; omega
      | x :: y :: r, q1, q2, q3 =>
        refine .of (a := .lst [.int x, .int y]) ?_ ⟨x, y, q3 x (by simp), q3 y (by simp), ?_, rfl⟩
        · show (pure (.lst (cutD _ none (some 2))) : MM D) = _
          unfold cutD
          rw [HT.sIx_none, show (some (2 : Int)) = some ((2 : Nat) : Int) from rfl, HT.sIx_nat]
          rw [show min 2 (List.map (fun k : Nat => D.int k) (x :: y :: r)).length - 0 = 2 by simp]
          rfl
        · intro e
          subst e
          simp at q2
    · obtain ⟨x, y, h1, h2, h3, rfl⟩ := hd
      exact .ret ⟨x, y, h1, h2, h3, rfl⟩
  · obtain ⟨ρ1, rfl, d, ⟨x, y, h1, h2, h3, rfl⟩, rfl⟩ := ho
    exact ⟨_, rfl, x, y, h1, h2, h3, rfl⟩
theorem notin_p (p q : Tie) : ∃ c, dNotIn (tieD p) (.lst [tieD q, .tup [.int q.2, .int q.1]]) = some (.bl c) := by
  unfold dNotIn dInB tieD
  exact ⟨_, rfl⟩
def inC (q : Tie) (d : D) : Bool := match dNotIn d (.lst [tieD q, .tup [.int q.2, .int q.1]]) with
  | some (.bl c) => c
  | _ => false
theorem x9_p {ρ : DL.Env} {T : List Tie} {q : Tie} (h3 : ρ[3]? = some (.sh (.lst (T.map tieD)))) (h8 : ρ[8]? = some (.sh (tieD q))) (hN : ρ.length = 13) (ht : T.length ≤ 100) : x9 ρ = pure (.lst ((T.filter fun p => inC q (tieD p)).map tieD)) := by
  have : x9 ρ = pure (.lst (((T.map tieD).filter (inC q)).map id)) := by
    refine lc_p (its_p (var_p h3)) (fun d hd => ?_) (by rw [List.length_map]; omega)
    obtain ⟨p, hp, rfl⟩ := List.mem_map.mp hd
    refine ⟨_, rfl, ?_, fun _ => ?_⟩
    · have k8 : ((wipeE ρ [12]).set 12 (.sh (tieD p)))[8]? = some (.sh (tieD q)) := by
        rw [List.getElem?_set_ne (by decide)]
        show ((ρ.set 12 .un))[8]? = _
        rw [List.getElem?_set_ne (by decide)]; exact h8
      have k12 : ((wipeE ρ [12]).set 12 (.sh (tieD p)))[12]? = some (.sh (tieD p)) := by
        rw [List.getElem?_set_self]
        show 12 < (ρ.set 12 .un).length
        rw [List.length_set]; omega
      obtain ⟨c, hc⟩ := notin_p p q
      have bk : eBack (eVar 8) ((wipeE ρ [12]).set 12 (.sh (tieD p))) = pure (.tup [.int q.2, .int q.1]) := by
        unfold eBack
        rw [var_p k8]
        rfl
      have := bool_p (bin_p (f := dNotIn) (var_p k12) (eFr_lst (args2 (var_p k8) bk) (by simp)) hc)
      rw [this]
      unfold inC
      rw [hc]
    · have k12 : ((wipeE ρ [12]).set 12 (.sh (tieD p)))[12]? = some (.sh (tieD p)) := by
        rw [List.getElem?_set_self]
        show 12 < (ρ.set 12 .un).length
        rw [List.length_set]; omega
      unfold oLeaf
      rw [var_p k12]
      rfl
  rw [this, List.map_id, List.filter_map]
  rfl
def S3 (n : Nat) (o : Out) : Prop := ∃ (ρ1 : DL.Env) (T : List Tie), o = .next ρ1 ∧ ρ1[0]? = some (.sh .pen) ∧ ρ1[3]? = some (.sh (.lst (T.map tieD))) ∧ ρ1[6]? = some (.sh (.int n)) ∧ Fit n T ∧ T.length ≤ 101
theorem pC_p {w : D} {ds : List D} {T : List Tie} {a b : Sl} {n : Nat} {ks : List Nat} (n2 : n ≤ 10) (hf : Fit n T) (ht : T.length ≤ 100) : Dr 11 (pC (E2 w ds a b T n ks)) (S3 n) := by
  unfold pC
  refine dr_ifP (k := 1) (k2 := 10) tC_p (fun h => ?_) (fun _ => ?_)
  · refine (dr_seqN (k := 10) (k2 := 0) (I := fun ρ1 => ∃ x y : Nat, x < n ∧ y < n ∧ x ≠ y ∧ ρ1 = (E2 w ds a b T n ks).set 8 (.sh (tieD (x, y)))) (p8_p (h rfl) n2) fun ρ1 q => ?_).mono (by omega) fun _ q => q
    obtain ⟨x, y, h1, h2, h3, rfl⟩ := q
    have e9 := x9_p (ρ := (E2 w ds a b T n ks).set 8 (.sh (tieD (x, y)))) (T := T) (q := (x, y)) rfl rfl rfl ht
    rw [seq_next (asg_p e9)]
    have lt : ((T.filter fun p => inC (x, y) (tieD p))).length ≤ T.length := List.length_filter_le _ _
    have fs : Fit n (T.filter fun p => inC (x, y) (tieD p)) := fun p hp => hf p (List.mem_filter.mp hp).1
    generalize T.filter (fun p => inC (x, y) (tieD p)) = T9 at lt fs
    have l9 : eCall dLen (aCons (eVar 9) aNil) (((E2 w ds a b T n ks).set 8 (.sh (tieD (x, y)))).set 9 (.sh (.lst (T9.map tieD)))) = pure (.int (T9.map tieD).length) := call1_p (var_p (d := .lst (T9.map tieD)) rfl) rfl
    have l3 : eCall dLen (aCons (eVar 3) aNil) (((E2 w ds a b T n ks).set 8 (.sh (tieD (x, y)))).set 9 (.sh (.lst (T9.map tieD)))) = pure (.int (T.map tieD).length) := call1_p (var_p (d := .lst (T.map tieD)) rfl) rfl
    have tt := bool_p (bin_p l9 l3 (lt_ints _ _))
    by_cases c : ((T9.map tieD).length : Int) < ((T.map tieD).length : Int)
    · refine .of (a := .next _) (asg_p (d := .lst (T9.map tieD)) ?_) ⟨_, T9, rfl, rfl, rfl, rfl, fs, by omega⟩
      unfold x3 eIf
      rw [tt, bind_p, decide_eq_true c, if_pos rfl]
      exact var_p rfl
    · refine .of (a := .next _) (asg_p (d := .lst ((T ++ [(x, y)]).map tieD)) ?_) ⟨_, T ++ [(x, y)], rfl, rfl, rfl, rfl, ?_, by rw [List.length_append]; simp; omega⟩
      · unfold x3 eIf
        rw [tt, bind_p, decide_eq_false c, if_neg (by decide)]
        have := bin_p (f := dAdd) (e1 := eVar 3) (e2 := eFr (oLst (aCons (eVar 8) aNil))) (ρ := ((E2 w ds a b T n ks).set 8 (.sh (tieD (x, y)))).set 9 (.sh (.lst (T9.map tieD)))) (var_p (d := .lst (T.map tieD)) rfl) (eFr_lst (args1 (var_p (d := tieD (x, y)) rfl)) (by simp)) (dAdd_lst (by rw [List.length_map]; simp; omega))
        rw [this, List.map_append]
        rfl
      · intro p hp
        rcases List.mem_append.mp hp with hp | hp
        · exact hf p hp
        · rw [List.mem_singleton.mp hp]
          exact ⟨h1, h2, h3⟩
  · exact (Dr.ret (a := Out.next (E2 w ds a b T n ks)) ⟨_, T, rfl, rfl, rfl, rfl, hf, by omega⟩).mono (Nat.zero_le _) fun _ q => q
end Lk65
set_option Elab.async false
set_option linter.all false
set_option maxRecDepth 100000
set_option maxHeartbeats 4000000
namespace Lk65
open PySem L2 DL

theorem some_web_p : Dr 152 (m__law_e_some_web [.pen]) (fun d => ∃ n T, Web n T ∧ n ≤ 10 ∧ d = .tup [.int n, .lst (T.map tieD)]) := by
  have e : m__law_e_some_web = runD 13 (sSeq (sAsg 1 (eDraw (aCons (eVar 0) (aCons (eC (.int 8)) aNil)))) (sSeq st1 (sSeq p6 (sSeq p3 (sSeq pC (sRet (eTup (aCons (eVar 6) (aCons (shuf (eVar 3)) aNil)))))))))  := rfl
  rw [e]
  refine dr_run (env := [.sh .pen, .un, .un, .un, .un, .un, .un, .un, .un, .un, .un, .un, .un]) rfl ?_
  have dr := dr_drawE (ρ := [.sh .pen, .un, .un, .un, .un, .un, .un, .un, .un, .un, .un, .un, .un]) (args2 (e1 := eVar 0) (e2 := eC (.int 8)) (var_p (d := .pen) rfl) rfl) (by decide) (by decide)
  refine (dr_seqN (k := 1) (k2 := 151) (I := fun ρ1 => ∃ w : Int, ρ1 = E0 w) ((dr_asg dr).mono (Nat.le_refl _) fun o ho => ?_) fun ρ1 q => ?_).mono (by omega) fun _ q => q
  · obtain ⟨ρ1, rfl, d, ⟨i, _, rfl⟩, rfl⟩ := ho
    exact ⟨_, rfl, i, rfl⟩
  obtain ⟨w, rfl⟩ := q
  refine (dr_seqN (k := 29) (k2 := 122) (I := fun ρ1 => S1 (.next ρ1)) ((st1_p w).mono (Nat.le_refl _) fun o ho => ?_) fun ρ1 q => ?_).mono (by omega) fun _ q => q
  · have ho' := ho
    obtain ⟨w, n, ds, T, a, b, rfl, _⟩ := ho
    exact ⟨_, rfl, ho'⟩
  obtain ⟨w, n, ds, T, a, b, h, hn, n1, n2, hf, ht⟩ := q
  injection h with h
  subst h
  refine (dr_seqN (k := 10) (k2 := 112) (p6_p hn n2) fun ρ1 q => ?_).mono (by omega) fun _ q => q
  obtain ⟨ks, k1, k2, k3, rfl⟩ := q
  rw [seq_next (p3_p hf ht k1)]
  refine (dr_seqN (k := 11) (k2 := 101) (I := fun ρ1 => S3 n (.next ρ1)) ((pC_p n2 (fit_mv hf k1 k2 k3) (by rw [List.length_map]; exact ht)).mono (Nat.le_refl _) fun o ho => ?_) fun ρ1 q => ?_).mono (by omega) fun _ q => q
  · have ho' := ho
    obtain ⟨ρ1, T, rfl, _⟩ := ho
    exact ⟨_, rfl, ho'⟩
  obtain ⟨ρ2, T2, h, g0, g3, g6, hf2, ht2⟩ := q
  injection h with h
  subst h
  have sh := shuf_p g0 (var_p g3) (by rw [List.length_map]; omega)
  rw [List.length_map] at sh
  refine (dr_ret (k := T2.length) (P := fun d => ∃ n T, Web n T ∧ n ≤ 10 ∧ d = .tup [.int n, .lst (T.map tieD)]) ?_).mono ht2 fun _ q => q
  unfold eTup
  refine (Dr.bind (k := T2.length) (k2 := 0) (dr_args2 (var_p g6) sh) fun es he => ?_).mono (Nat.le_refl _) fun _ q => q
  obtain ⟨y, ⟨ys, hp, rfl⟩, rfl⟩ := he
  rw [if_pos (by simp)]
  have hl := hp.length_eq
  obtain ⟨T3, h3, rfl⟩ := back_map (f := tieD) (Q := fun p => p.1 < n ∧ p.2 < n ∧ p.1 ≠ p.2) ys (fun z hz => by
    obtain ⟨p, hp, e⟩ := List.mem_map.mp (hp.mem_iff.mp hz)
    exact ⟨p, hf2 p hp, e.symm⟩)
  rw [List.length_map, List.length_map] at hl
  exact .ret ⟨n, T3, ⟨n1, by omega, by omega, h3⟩, n2, rfl⟩
end Lk65
set_option Elab.async false
set_option linter.all false
set_option maxRecDepth 100000
set_option maxHeartbeats 4000000
namespace Lk65
open PySem L2 DL

theorem def3_p' {m : List D → MM D} {e1 e2 e3 : DL.Env → MM D} {ρ : DL.Env} {x y z : D} (h1 : e1 ρ = pure x) (h2 : e2 ρ = pure y) (h3 : e3 ρ = pure z) : eDef 3 m (aCons e1 (aCons e2 (aCons e3 aNil))) ρ = m [x, y, z] := by
  unfold eDef aCons aNil
  simp only [h1, h2, h3, bind_p]
  rfl
theorem fault_ne (n : Nat) (a : Nat → Nat → Int) (o p : D) : dNe (faultD n a o p) (faultD n a o p) = some (.bl false) := by
  unfold faultD
  repeat' split
  all_goals kernel_rfl
structure J (n : Nat) (T : List Tie) (s : D) (ρ : DL.Env) : Prop where
  len : ρ.length = 13
  pen : ρ[1]? = some (.sh .pen)
  n3 : ρ[3]? = some (.sh (.int n))
  t4 : ρ[4]? = some (.sh (.lst (T.map tieD)))
  s5 : ρ[5]? = some (.sh s)
theorem J.set {n : Nat} {T : List Tie} {s : D} {ρ : DL.Env} (h : J n T s ρ) (i : Nat) (v : Sl) (hi : 6 ≤ i) : J n T s (ρ.set i v) := by
  obtain ⟨h1, h2, h3, h4, h5⟩ := h
  refine ⟨by simpa using h1, ?_, ?_, ?_, ?_⟩
  · rw [List.getElem?_set_ne (by omega)]; exact h2
  · rw [List.getElem?_set_ne (by omega)]; exact h3
  · rw [List.getElem?_set_ne (by omega)]; exact h4
  · rw [List.getElem?_set_ne (by omega)]; exact h5
theorem J.at {n : Nat} {T : List Tie} {s : D} {ρ : DL.Env} (h : J n T s ρ) (i : Nat) (v : Sl) (hi : i < 13) : (ρ.set i v)[i]? = some v := List.getElem?_set_self (by rw [h.len]; exact hi)
def sp : DL.Env → MM D := eDef 2 m__law_some_pair (aCons (eVar 1) (aCons (eVar 3) aNil))
def b1 : DL.Env → MM Out := sAsg 7 (eFr (oLst (aCons sp (aCons sp aNil))))
theorem dr_args2' {e1 e2 : DL.Env → MM D} {ρ : DL.Env} {k k2 : Nat} {P Q : D → Prop} (h1 : Dr k (e1 ρ) P) (h2 : Dr k2 (e2 ρ) Q) : Dr (k + k2) (aCons e1 (aCons e2 aNil) ρ) (fun es => ∃ x y, P x ∧ Q y ∧ es = [x, y]) := by
  unfold aCons aNil
  refine h1.bind fun x hx => ?_
  refine (Dr.bind (k := k2) (k2 := 0) (P := fun es => ∃ y, Q y ∧ es = [y]) ((Dr.bind (k2 := 0) h2 fun d hd => ?_).mono (Nat.le_refl _) fun _ q => q) fun es he => ?_).mono (Nat.le_refl _) fun _ q => q
  · exact .ret ⟨d, hd, rfl⟩
  · obtain ⟨y, hy, rfl⟩ := he
    exact .ret ⟨x, y, hx, hy, rfl⟩
theorem b1_p {n : Nat} {T : List Tie} {s : D} {ρ : DL.Env} (w : Web n T) (h : J n T s ρ) : Dr 8 (b1 ρ) (fun o => ∃ ρ1, o = .next ρ1 ∧ ∃ x y, Flt x ∧ Flt y ∧ ρ1 = ρ.set 7 (.sh (.lst [x, y]))) := by
  have s1 : Dr 4 (sp ρ) Flt := by
    unfold sp
    rw [def2_p (var_p h.pen) (var_p h.n3)]
    exact some_pair_p w.pos w.le
  unfold b1
  refine (dr_asg (k := 8) (P := fun d => ∃ x y, Flt x ∧ Flt y ∧ d = .lst [x, y]) ?_).mono (Nat.le_refl _) fun o ho => ?_
  · unfold eFr oLst
    refine (Dr.bind (k := 8) (k2 := 0) (P := fun m => ∃ x y, Flt x ∧ Flt y ∧ m = .lst ([x, y].map M.leaf)) (Dr.bind (k := 8) (k2 := 0) (dr_args2' s1 s1) fun es he => ?_) fun m hm => ?_).mono (Nat.le_refl _) fun _ q => q
    · obtain ⟨x, y, hx, hy, rfl⟩ := he
      rw [if_pos (by simp)]
      exact .ret ⟨x, y, hx, hy, rfl⟩
    · obtain ⟨x, y, hx, hy, rfl⟩ := hm
      exact .ret ⟨x, y, hx, hy, toD_leafs _⟩
  · obtain ⟨ρ1, rfl, d, ⟨x, y, hx, hy, rfl⟩, rfl⟩ := ho
    exact ⟨_, rfl, x, y, hx, hy, rfl⟩
def b2 : DL.Env → MM Out := (sIf (tBool (eBin dNe (eDef 3 m_strong_fault (aCons (eVar 3) (aCons (eVar 4) (aCons (eDef 2 m_NotStrong_init (aCons (eBin dSub2 (eVar 7) (eC (.int 0))) (aCons (eBin dSub2 (eVar 7) (eC (.int 1))) aNil))) aNil)))) (eDef 3 m__law_due (aCons (eVar 3) (aCons (eVar 4) (aCons (eVar 7) aNil)))))) (sRet (eC (.bl false))) sNext)
theorem b2_p {n : Nat} {T : List Tie} {s x y : D} {ρ : DL.Env} (w : Web n T) (h : J n T s ρ) (h7 : ρ[7]? = some (.sh (.lst [x, y]))) (hx : Flt x) (hy : Flt y) : b2 ρ = pure (.next ρ) := by
  have e7 : ∀ e : DL.Env → MM D, True := fun _ => trivial
  have i1 : eDef 2 m_NotStrong_init (aCons (eBin dSub2 (eVar 7) (eC (.int 0))) (aCons (eBin dSub2 (eVar 7) (eC (.int 1))) aNil)) ρ = pure (notD x y) := by
    rw [def2_p (bin_p (var_p h7) (show eC (.int 0) ρ = pure (.int 0) from rfl) (show dSub2 (.lst [x, y]) (.int 0) = some x from rfl)) (bin_p (var_p h7) (show eC (.int 1) ρ = pure (.int 1) from rfl) (show dSub2 (.lst [x, y]) (.int 1) = some y from rfl))]
    exact NotStrong_init_p hx.kept hy.kept
  have f1 := (def3_p' (m := m_strong_fault) (var_p h.n3) (var_p h.t4) i1).trans (strong_fault_not w hx hy)
  have f2 := (def3_p' (m := m__law_due) (var_p h.n3) (var_p h.t4) (var_p h7)).trans (law_due_p w hx hy)
  unfold b2
  rw [sif_f (bool_p (bin_p f1 f2 (fault_ne _ _ _ _)))]
  rfl
end Lk65
set_option Elab.async false
set_option linter.all false
set_option maxRecDepth 100000
set_option maxHeartbeats 4000000
namespace Lk65
open PySem L2 DL

/-- what the web's strength is, to both sides -/
def Sway (n : Nat) (T : List Tie) (s : D) : Prop := (s = .non ∧ ∃ q p : Tie, m_settled_strong [matD n (tied T fun _ _ => 0)] = pure (notD (tieD q) (tieD p))) ∨ ∃ k l m : D, Num k ∧ Num l ∧ Num m ∧ s = .tup [k, l, m] ∧ m_settled_strong [matD n (tied T fun _ _ => 0)] = pure (strongD k l m)
def b3 : DL.Env → MM Out := (sOwn 8 (oIf (tBool (eBin dIsNot (eVar 5) (eC .non))) (oListA (aCons (eVar 5) aNil)) (oLst (aCons (eC (.int 1)) (aCons (eC (.int 0)) (aCons (eC (.int 0)) aNil))))))
def K8 (n : Nat) (T : List Tie) (s : D) (ρ : DL.Env) : Prop := J n T s ρ ∧ ∃ x y z, Small x ∧ Small y ∧ Small z ∧ ρ[8]? = some (.ow (.lst ([x, y, z].map .leaf)))
theorem isnot_p {ρ : DL.Env} {s : D} (h : ρ[5]? = some (.sh s)) : (s = .non → tBool (eBin dIsNot (eVar 5) (eC .non)) ρ = pure false) ∧ (∀ k l m, s = .tup [k, l, m] → tBool (eBin dIsNot (eVar 5) (eC .non)) ρ = pure true) := by
  constructor
  · rintro rfl
    exact bool_p (bin_p (var_p h) (show eC .non ρ = pure .non from rfl) rfl)
  · rintro k l m rfl
    exact bool_p (bin_p (var_p h) (show eC .non ρ = pure .non from rfl) rfl)
theorem b3_p {n : Nat} {T : List Tie} {s : D} {ρ : DL.Env} (h : J n T s ρ) (hs : Sway n T s) : ∃ ρ1, b3 ρ = pure (.next ρ1) ∧ K8 n T s ρ1 := by
  have nt := isnot_p h.s5
  rcases hs with ⟨e, _⟩ | ⟨k, l, m, hk, hl, hm, e, _⟩
  · refine ⟨_, own_p (m := .lst ([D.int 1, .int 0, .int 0].map .leaf)) ?_, h.set 8 _ (by decide), .int 1, .int 0, .int 0, .int _, .int _, .int _, h.at 8 _ (by decide)⟩
    unfold oIf
    rw [nt.1 e, bind_p]
    rfl
  · refine ⟨_, own_p (m := .lst ([k, l, m].map .leaf)) ?_, h.set 8 _ (by decide), k, l, m, hk.small, hl.small, hm.small, h.at 8 _ (by decide)⟩
    unfold oIf oListA
    rw [nt.2 k l m e, bind_p, if_pos rfl, args1 (var_p h.s5), e]
    rfl
def menu8 : DL.Env → MM D := (eFr (oLst (aCons (eC .non) (aCons (eC (.int 0)) (aCons (eC (.int 1)) (aCons (eC (.int 2)) (aCons (eC (.int 5)) (aCons (eC (.bl true)) (aCons (eC (.bl false)) (aCons (eC (.str "1")) aNil))))))))))
def b4 : DL.Env → MM Out := (sIf (tBool (eBin dGt (eDraw (aCons (eVar 1) (aCons (eC (.int 3)) aNil))) (eC (.int 0)))) (sSeq (sAsg 9 (eDraw (aCons (eVar 1) (aCons (eC (.int 3)) aNil)))) (sAsgG (gSet 8 lHere (eVar 9)) (eDef 2 m__law_pick (aCons (eVar 1) (aCons menu8 aNil))))) sNext)
theorem set8 {ρ : DL.Env} {x y z d : D} {i : Nat} (h8 : ρ[8]? = some (.ow (.lst ([x, y, z].map .leaf)))) (h9 : ρ[9]? = some (.sh (.int i))) (hi : i < 3) (hx : Small x) (hy : Small y) (hz : Small z) (hd : Small d) :
    ∃ x' y' z', Small x' ∧ Small y' ∧ Small z' ∧ gSet 8 lHere (eVar 9) d ρ = pure (ρ.set 8 (.ow (.lst ([x', y', z'].map .leaf)))) := by
  have ho : ownAt 8 ρ = some (.lst ([x, y, z].map .leaf)) := by unfold ownAt; rw [h8]
  match i, hi with
  | 0, _ => exact ⟨d, y, z, hd, hy, hz, by unfold gSet lHere; rw [bind_p, var_p h9, bind_p]; simp only [ho]; rfl⟩
  | 1, _ => exact ⟨x, d, z, hx, hd, hz, by unfold gSet lHere; rw [bind_p, var_p h9, bind_p]; simp only [ho]; rfl⟩
  | 2, _ => exact ⟨x, y, d, hx, hy, hd, by unfold gSet lHere; rw [bind_p, var_p h9, bind_p]; simp only [ho]; rfl⟩
theorem b4_p {n : Nat} {T : List Tie} {s : D} {ρ : DL.Env} (h : K8 n T s ρ) : Dr 3 (b4 ρ) (fun o => ∃ ρ1, o = .next ρ1 ∧ K8 n T s ρ1) := by
  obtain ⟨hJ, x, y, z, hx, hy, hz, h8⟩ := h
  have dr : ∀ {ρ1}, J n T s ρ1 → Dr 1 (eDraw (aCons (eVar 1) (aCons (eC (.int 3)) aNil)) ρ1) (fun d => ∃ i : Nat, (i : Int) < 3 ∧ d = .int i) := fun {ρ1} g => dr_drawE (args2 (var_p g.pen) rfl) (by decide) (by decide)
  unfold b4
  refine (dr_ifP (k := 1) (k2 := 2) (P := fun _ => True) ?_ (fun _ => ?_) (fun _ => ?_)).mono (by omega) fun _ q => q
  · unfold tBool eBin
    refine (Dr.bind (Q := fun _ => True) (k2 := 0) (Dr.bind (Q := fun d => ∃ c, d = .bl c) (k2 := 0) (dr hJ) fun d hd => ?_) fun d hd => ?_).mono (by omega) fun _ q => q
    · obtain ⟨i, _, rfl⟩ := hd
      exact .ret ⟨_, rfl⟩
    · obtain ⟨c, rfl⟩ := hd
      exact .ret trivial
  · refine (dr_seqN (k := 1) (k2 := 1) (I := fun ρ1 => ∃ i : Nat, i < 3 ∧ ρ1 = ρ.set 9 (.sh (.int i))) ((dr_asg (dr hJ)).mono (Nat.le_refl _) fun o ho => ?_) fun ρ1 q => ?_).mono (by omega) fun _ q => q
    · obtain ⟨ρ1, rfl, d, ⟨i, hi, rfl⟩, rfl⟩ := ho
      exact ⟨_, rfl, i, by omega, rfl⟩
    obtain ⟨i, hi, rfl⟩ := q
    have J9 := hJ.set 9 (.sh (.int i)) (by decide)
    have g9 := hJ.at 9 (.sh (.int i)) (by decide)
    have g8 : (ρ.set 9 (.sh (.int i)))[8]? = some (.ow (.lst ([x, y, z].map .leaf))) := by rw [List.getElem?_set_ne (by decide)]; exact h8
    generalize ρ.set 9 (.sh (.int i)) = ρ1 at J9 g9 g8
    unfold sAsgG
    have me : menu8 ρ1 = pure (.lst [.non, .int 0, .int 1, .int 2, .int 5, .bl true, .bl false, .str "1"]) := rfl
    rw [def2_p (var_p J9.pen) me]
    refine (Dr.bind (k := 1) (k2 := 0) (pick_p (by simp) (by simp)) fun d hd => ?_).mono (by omega) fun _ q => q
    have hsd : Small d := by
      simp only [List.mem_cons, List.not_mem_nil, or_false] at hd
      rcases hd with rfl | rfl | rfl | rfl | rfl | rfl | rfl | rfl
      · exact .non
      · exact .int _
      · exact .int _
      · exact .int _
      · exact .int _
      · exact .bl _
      · exact .bl _
      · exact .one
    obtain ⟨x', y', z', hx', hy', hz', e⟩ := set8 g8 g9 hi hx hy hz hsd
    rw [e, bind_p]
    exact .ret ⟨_, rfl, J9.set 8 _ (by decide), x', y', z', hx', hy', hz', J9.at 8 _ (by decide)⟩
  · exact (Dr.ret (a := Out.next ρ) ⟨_, rfl, hJ, x, y, z, hx, hy, hz, h8⟩).mono (Nat.zero_le _) fun _ q => q
end Lk65
set_option Elab.async false
set_option linter.all false
set_option maxRecDepth 100000
set_option maxHeartbeats 4000000
namespace Lk65
open PySem L2 DL

def x11 : DL.Env → MM D := (eFr (oLc (itS (eVar 8)) (gNm 12) (tBool (eCall (dIsi 3) (aCons (eVar 12) (aCons (eC (.ty "bool")) aNil)))) (oLeaf (eC (.int 1))) [12]))
def x10 : DL.Env → MM D := (eIf (tAnd' (tBool (eBin dEq (eTuple (eVar 8)) (eVar 5))) (tBool (eBin dEq (eVar 11) (eFr (oLst aNil))))) (eC .non) (eTup (aCons (eC (.str "numbers")) aNil)))
def b5 : DL.Env → MM Out := (sAsg 10 (eTup (aCons (eC (.str "strong")) aNil)))
def b7 : DL.Env → MM Out := (sIf (tBool (eBin dIsNot (eVar 5) (eC .non))) (sSeq (sAsg 11 x11) (sAsg 10 x10)) sNext)
def b8 : DL.Env → MM Out := (sIf (tBool (eBin dNe (eDef 3 m_strong_fault (aCons (eVar 3) (aCons (eVar 4) (aCons (eDef 3 m_Strong_init (aCons (eBin dSub2 (eVar 8) (eC (.int 0))) (aCons (eBin dSub2 (eVar 8) (eC (.int 1))) (aCons (eBin dSub2 (eVar 8) (eC (.int 2))) aNil)))) aNil)))) (eVar 10))) (sRet (eC (.bl false))) sNext)
theorem isi_bl {d : D} (h : Small d) : dIsi 3 [d, .ty "bool"] = some (.bl (isBl d)) := by
  cases h with
  | non => kernel_rfl
  | int i => kernel_rfl
  | bl b => kernel_rfl
  | one => kernel_rfl
def onesD (x y z : D) : D := .lst (([x, y, z].filter isBl).map fun _ => .int 1)
theorem x11_p {ρ : DL.Env} {x y z : D} (h8 : ρ[8]? = some (.sh (.lst [x, y, z]))) (hN : ρ.length = 13) (hx : Small x) (hy : Small y) (hz : Small z) : x11 ρ = pure (onesD x y z) := by
  refine lc_p (c := isBl) (its_p (var_p h8)) (fun d hd => ⟨_, rfl, ?_, fun _ => rfl⟩) (by simp)
  have hs : Small d := by
    simp only [List.mem_cons, List.not_mem_nil, or_false] at hd
    rcases hd with rfl | rfl | rfl
    · exact hx
    · exact hy
    · exact hz
  have k12 : ((wipeE ρ [12]).set 12 (.sh d))[12]? = some (.sh d) := by
    rw [List.getElem?_set_self]
    show 12 < (ρ.set 12 .un).length
    rw [List.length_set]; omega
  exact bool_p (call2_p (var_p k12) (show eC (.ty "bool") _ = pure (.ty "bool") from rfl) (isi_bl hs))
theorem ones_eq (x y z : D) : dEq (onesD x y z) (.lst []) = some (.bl (!(isBl x || (isBl y || isBl z)))) := by
  unfold onesD
  simp only [List.filter]
  cases isBl x <;> cases isBl y <;> cases isBl z <;> kernel_rfl
theorem word_ne1 : dNe (word "strong") (word "strong") = some (.bl false) := by kernel_rfl
theorem word_ne2 (c : Bool) : dNe (if c then .non else word "numbers") (if c then .non else word "numbers") = some (.bl false) := by cases c <;> kernel_rfl
def b58 : DL.Env → MM Out := sSeq b5 (sFrz 8 (sSeq b7 b8))
theorem b58_p {n : Nat} {T : List Tie} {s : D} {ρ : DL.Env} (w : Web n T) (h : K8 n T s ρ) (hs : Sway n T s) : ∃ ρ1, b58 ρ = pure (.next ρ1) ∧ J n T s ρ1 := by
  obtain ⟨hJ, x, y, z, hx, hy, hz, h8⟩ := h
  have e5 : b5 ρ = pure (.next (ρ.set 10 (.sh (word "strong")))) := asg_p (eTup_p rfl (by simp))
  have J1 := hJ.set 10 (.sh (word "strong")) (by decide)
  have g10 := hJ.at 10 (.sh (word "strong")) (by decide)
  have g8 : (ρ.set 10 (.sh (word "strong")))[8]? = some (.ow (.lst ([x, y, z].map .leaf))) := by rw [List.getElem?_set_ne (by decide)]; exact h8
  unfold b58
  rw [seq_next e5]
  generalize ρ.set 10 (.sh (word "strong")) = ρ1 at J1 g10 g8
  show ∃ ρ2, sSeq b7 b8 (frz 8 ρ1) = pure (.next ρ2) ∧ _
  rw [frz_at g8, toD_leafs]
  have J2 := J1.set 8 (.sh (.lst [x, y, z])) (by decide)
  have k8 := J1.at 8 (.sh (.lst [x, y, z])) (by decide)
  have k10 : (ρ1.set 8 (.sh (.lst [x, y, z])))[10]? = some (.sh (word "strong")) := by rw [List.getElem?_set_ne (by decide)]; exact g10
  generalize ρ1.set 8 (.sh (.lst [x, y, z])) = ρ2 at J2 k8 k10
  have last : ∀ {ρ3 : DL.Env} {F : D}, J n T s ρ3 → ρ3[8]? = some (.sh (.lst [x, y, z])) → ρ3[10]? = some (.sh F) → m_strong_fault [.int n, .lst (T.map tieD), strongD x y z] = pure F → dNe F F = some (.bl false) → b8 ρ3 = pure (.next ρ3) := by
    intro ρ3 F j q8 q10 hf hne
    have i1 : eDef 3 m_Strong_init (aCons (eBin dSub2 (eVar 8) (eC (.int 0))) (aCons (eBin dSub2 (eVar 8) (eC (.int 1))) (aCons (eBin dSub2 (eVar 8) (eC (.int 2))) aNil))) ρ3 = pure (strongD x y z) := by
      rw [def3_p' (bin_p (var_p q8) (show eC (.int 0) ρ3 = pure (.int 0) from rfl) (show dSub2 (.lst [x, y, z]) (.int 0) = some x from rfl)) (bin_p (var_p q8) (show eC (.int 1) ρ3 = pure (.int 1) from rfl) (show dSub2 (.lst [x, y, z]) (.int 1) = some y from rfl)) (bin_p (var_p q8) (show eC (.int 2) ρ3 = pure (.int 2) from rfl) (show dSub2 (.lst [x, y, z]) (.int 2) = some z from rfl))]
      exact Strong_init_p x y z
    have f1 := (def3_p' (m := m_strong_fault) (var_p j.n3) (var_p j.t4) i1).trans hf
    unfold b8
    rw [sif_f (bool_p (bin_p f1 (var_p q10) hne))]
    rfl
  have nt := isnot_p J2.s5
  rcases hs with ⟨e, q, p, hq⟩ | ⟨k, l, m, hk, hl, hm, e, hq⟩
  · refine ⟨ρ2, ?_, J2⟩
    have e7 : b7 ρ2 = pure (.next ρ2) := by
      unfold b7
      rw [sif_f (nt.1 e)]
      rfl
    rw [seq_next e7]
    exact last J2 k8 k10 (strong_fault_none w hq) word_ne1
  · obtain ⟨b, hb⟩ := eq3 hx hy hz hk.small hl.small hm.small
    have e11 := x11_p k8 J2.len hx hy hz
    have J3 := J2.set 11 (.sh (onesD x y z)) (by decide)
    have k11 := J2.at 11 (.sh (onesD x y z)) (by decide)
    have k8' : (ρ2.set 11 (.sh (onesD x y z)))[8]? = some (.sh (.lst [x, y, z])) := by rw [List.getElem?_set_ne (by decide)]; exact k8
    have e7 : b7 ρ2 = sAsg 10 x10 (ρ2.set 11 (.sh (onesD x y z))) := by
      unfold b7
      rw [sif_t (nt.2 k l m e), seq_next (asg_p e11)]
    generalize ρ2.set 11 (.sh (onesD x y z)) = ρ3 at J3 k11 k8' e7
    have t1 : tBool (eBin dEq (eTuple (eVar 8)) (eVar 5)) ρ3 = pure b := by
      refine bool_p (bin_p (eTuple_lst (var_p k8')) (var_p J3.s5) ?_)
      rw [e]
      unfold dEq
      rw [hb]
      rfl
    have t2 : tBool (eBin dEq (eVar 11) (eFr (oLst aNil))) ρ3 = pure (!(isBl x || (isBl y || isBl z))) := bool_p (bin_p (var_p k11) (eFr_lst rfl (by simp)) (ones_eq x y z))
    have e10 : x10 ρ3 = pure (if b && !(isBl x || (isBl y || isBl z)) then .non else word "numbers") := by
      unfold x10 eIf tAnd'
      rw [t1, bind_p]
      cases b with
      | false => rfl
      | true =>
        rw [if_pos rfl, t2, bind_p]
        cases (!(isBl x || (isBl y || isBl z))) <;> rfl
    refine ⟨ρ3.set 10 (.sh (if b && !(isBl x || (isBl y || isBl z)) then .non else word "numbers")), ?_, J3.set 10 _ (by decide)⟩
    rw [seq_next (e7.trans (asg_p e10))]
    refine last (J3.set 10 _ (by decide)) (by rw [List.getElem?_set_ne (by decide)]; exact k8') (J3.at 10 _ (by decide)) (strong_fault_some w hx hy hz hq hb) (word_ne2 _)
end Lk65
set_option Elab.async false
set_option linter.all false
set_option maxRecDepth 100000
set_option maxHeartbeats 4000000
namespace Lk65
open PySem L2 DL

/-- no answer at all -/
theorem strong_fault_word {n : Nat} {T : List Tie} (w : Web n T) {s v r : D} (hs : m_settled_strong [matD n (tied T fun _ _ => 0)] = pure r) (h1 : dIsi 3 [v, .cls 1] = some (.bl false)) (h2 : dIsi 3 [v, .cls 2] = some (.bl false)) : m_strong_fault [.int n, .lst (T.map tieD), v] = pure (word "answer") := by
  have tr := tie_rows_p w
  generalize tied T (fun _ _ => 0) = a at tr hs
  unfold m_strong_fault
  refine run_ret ?_
  refine (seq_next (asg_p (d := matD n a) ((def2_p (var_p (d := .int n) rfl) (var_p (d := .lst (T.map tieD)) rfl)).trans tr))).trans ?_
  refine (seq_next (asg_p (d := r) ((def1_p (var_p (d := matD n a) rfl)).trans hs))).trans ?_
  show sSeq _ _ [.sh (.int n), .sh (.lst (T.map tieD)), .sh v, .sh (matD n a), .sh r, .un, .un] = _
  have e2 : eVar 2 [.sh (.int n), .sh (.lst (T.map tieD)), .sh v, .sh (matD n a), .sh r, .un, .un] = pure v := rfl
  generalize ([.sh (.int n), .sh (.lst (T.map tieD)), .sh v, .sh (matD n a), .sh r, .un, .un] : DL.Env) = ρ at e2
  have c1 : tBool (eCall (dIsi 3) (aCons (eVar 2) (aCons (eC (.cls 1)) aNil))) ρ = pure false := bool_p (call2_p e2 rfl h1)
  have c2 : tNot' (tBool (eCall (dIsi 3) (aCons (eVar 2) (aCons (eC (.cls 2)) aNil)))) ρ = pure true := by
    unfold tNot'
    rw [bool_p (call2_p e2 rfl h2)]
    rfl
  refine (seq_next (ρ1 := ρ) ((sif_f c1).trans rfl)).trans ?_
  refine seq_ret ((sif_t c2).trans ?_)
  exact ret_p (eTup_p (ds := [.str "answer"]) rfl (by simp))
def innerB : DL.Env → MM Out := sSeq b1 (sSeq b2 (sSeq b3 (sSeq b4 b58)))
theorem innerJ_p {n : Nat} {T : List Tie} {s : D} {ρ : DL.Env} (w : Web n T) (hs : Sway n T s) (h : J n T s ρ) : Dr 11 (innerB ρ) (fun o => ∃ ρ2, o = .next ρ2 ∧ J n T s ρ2) := by
  unfold innerB
  refine (dr_seqN (k := 8) (k2 := 3) (b1_p w h) fun ρ1 q => ?_).mono (by omega) fun _ q => q
  obtain ⟨x, y, hx, hy, rfl⟩ := q
  have J7 := h.set 7 (.sh (.lst [x, y])) (by decide)
  rw [seq_next (b2_p w J7 (h.at 7 _ (by decide)) hx hy)]
  obtain ⟨ρ3, e3, h3⟩ := b3_p J7 hs
  rw [seq_next e3]
  refine (dr_seqN (k := 3) (k2 := 0) (b4_p h3) fun ρ4 q => ?_).mono (by omega) fun _ q => q
  obtain ⟨ρ5, e5, h5⟩ := b58_p w q hs
  exact .of e5 ⟨ρ5, rfl, h5⟩
def loop6 : DL.Env → MM Out := sFor (itR1 (aCons (eC (.int 6)) aNil)) (gNm 6) innerB
theorem loop6_p {n : Nat} {T : List Tie} {s : D} {ρ : DL.Env} (w : Web n T) (hs : Sway n T s) (h : J n T s ρ) : Dr 66 (loop6 ρ) (fun o => ∃ ρ2, o = .next ρ2 ∧ J n T s ρ2) := by
  have it : itR1 (aCons (eC (.int 6)) aNil) ρ = pure (rng 0 6) := itR1_p (n := 6) (z := 6) (args1 rfl) rfl (by omega)
  have lp := dr_loop (k := 11) (tgf := gNm 6) (body := innerB) (fun _ ρ => J n T s ρ) (rng 0 6) 0 ρ (fun j d ρ hd q => ⟨_, rfl, innerJ_p w hs (q.set 6 _ (by decide))⟩) h
  unfold loop6
  rw [for_p it]
  rw [rng_length] at lp
  exact lp
end Lk65
set_option Elab.async false
set_option linter.all false
set_option maxRecDepth 100000
set_option maxHeartbeats 4000000
namespace Lk65
open PySem L2 DL

def tailB : DL.Env → MM Out := (sSeq (sIf (tOr' (tBool (eOwn 3 1 true m_Strong_eq (eDef 3 m_Strong_init (aCons (eC (.int 1)) (aCons (eC (.int 2)) (aCons (eC (.int 3)) aNil)))) (eDef 3 m_Strong_init (aCons (eC (.int 1)) (aCons (eC (.int 2)) (aCons (eC (.int 3)) aNil)))))) (tBool (eOwn 3 1 false m_Strong_eq (eDef 3 m_Strong_init (aCons (eC (.int 1)) (aCons (eC (.int 2)) (aCons (eC (.int 3)) aNil)))) (eDef 3 m_Strong_init (aCons (eC (.int 1)) (aCons (eC (.int 2)) (aCons (eC (.int 4)) aNil))))))) (sRet (eC (.bl false))) sNext)
    (sSeq (sIf (tOr' (tBool (eOwn 3 1 false m_Strong_eq (eDef 3 m_Strong_init (aCons (eC (.int 1)) (aCons (eC (.int 2)) (aCons (eC (.int 3)) aNil)))) (eDef 3 m_Strong_init (aCons (eC (.int 0)) (aCons (eC (.int 2)) (aCons (eC (.int 3)) aNil)))))) (tBool (eOwn 3 1 false m_Strong_eq (eDef 3 m_Strong_init (aCons (eC (.int 1)) (aCons (eC (.int 2)) (aCons (eC (.int 3)) aNil)))) (eDef 3 m_Strong_init (aCons (eC (.int 1)) (aCons (eC (.int 0)) (aCons (eC (.int 3)) aNil))))))) (sRet (eC (.bl false))) sNext)
    (sSeq (sIf (tOr' (tBool (eOwn 3 2 true m_NotStrong_eq (eDef 2 m_NotStrong_init (aCons (eFr (oLst (aCons (eC (.int 0)) (aCons (eC (.int 1)) aNil)))) (aCons (eTup (aCons (eC (.int 1)) (aCons (eC (.int 2)) aNil))) aNil))) (eDef 2 m_NotStrong_init (aCons (eTup (aCons (eC (.int 0)) (aCons (eC (.int 1)) aNil))) (aCons (eFr (oLst (aCons (eC (.int 1)) (aCons (eC (.int 2)) aNil)))) aNil))))) (tBool (eOwn 3 2 false m_NotStrong_eq (eDef 2 m_NotStrong_init (aCons (eTup (aCons (eC (.int 0)) (aCons (eC (.int 1)) aNil))) (aCons (eTup (aCons (eC (.int 1)) (aCons (eC (.int 2)) aNil))) aNil))) (eDef 2 m_NotStrong_init (aCons (eTup (aCons (eC (.int 0)) (aCons (eC (.int 1)) aNil))) (aCons (eTup (aCons (eC (.int 1)) (aCons (eC (.int 3)) aNil))) aNil)))))) (sRet (eC (.bl false))) sNext)
    (sRet (eAnd (eOwn 3 2 true m_NotStrong_eq (eDef 2 m_NotStrong_init (aCons (eTup (aCons (eC (.int 0)) (aCons (eC (.int 1)) aNil))) (aCons (eTup (aCons (eC (.int 1)) (aCons (eC (.int 2)) aNil))) aNil))) (eDef 2 m_NotStrong_init (aCons (eTup (aCons (eC (.int 0)) (aCons (eC (.int 2)) aNil))) (aCons (eTup (aCons (eC (.int 1)) (aCons (eC (.int 2)) aNil))) aNil)))) (eOwn 3 1 true m_Strong_eq (eDef 3 m_Strong_init (aCons (eC (.int 1)) (aCons (eC (.int 2)) (aCons (eC (.int 3)) aNil)))) (eDef 2 m_NotStrong_init (aCons (eC (.int 1)) (aCons (eC (.int 2)) aNil)))))))))
def fourth : DL.Env → MM Out := (sIf (tBool (eBin dNe (eDef 3 m_strong_fault (aCons (eVar 3) (aCons (eVar 4) (aCons (eDef 2 m__law_pick (aCons (eVar 1) (aCons (eFr (oLst (aCons (eC .non) (aCons (eC (.int 5)) (aCons (eTup aNil) (aCons (eC (.str "strong")) aNil)))))) aNil))) aNil)))) (eTup (aCons (eC (.str "answer")) aNil)))) (sRet (eC (.bl false))) sNext)
def outerB : DL.Env → MM Out := (sSeq (sAsgG (gTp 2 (gsC (gNm 3) (gsC (gNm 4) gsN))) (eDef 1 m__law_e_some_web (aCons (eVar 1) aNil))) (sSeq (sAsg 5 (eDef 2 m__law_e_strong (aCons (eVar 3) (aCons (eVar 4) aNil)))) (sSeq loop6 fourth)))
theorem b_law_eq : b_law = sSeq (sFor (itR1 (aCons (eC (.int 3)) aNil)) (gNm 2) outerB) tailB := rfl
theorem tail_p (ρ : DL.Env) : tailB ρ = pure (.ret (.bl true)) := by funext π; kernel_rfl
end Lk65
set_option Elab.async false
set_option linter.all false
set_option maxRecDepth 100000
set_option maxHeartbeats 4000000
namespace Lk65
open PySem L2 DL

/-- what holds of the outer loop's state -/
def O1 (ρ : DL.Env) : Prop := ρ.length = 13 ∧ ρ[1]? = some (.sh .pen)
theorem str_of {n : Nat} {T : List Tie} (w : Web n T) : ∃ s, Sway n T s ∧ m__law_e_strong [.int n, .lst (T.map tieD)] = pure s := by
  rcases strong_both w with ⟨q, p, h1, h2⟩ | ⟨k, l, m, hk, hl, hm, h1, h2⟩
  · exact ⟨.non, Or.inl ⟨rfl, q, p, h1⟩, h2⟩
  · exact ⟨.tup [k, l, m], Or.inr ⟨k, l, m, hk, hl, hm, rfl, h1⟩, h2⟩
theorem str_settled {n : Nat} {T : List Tie} {s : D} (h : Sway n T s) : ∃ r, m_settled_strong [matD n (tied T fun _ _ => 0)] = pure r := by
  rcases h with ⟨_, q, p, h⟩ | ⟨k, l, m, _, _, _, _, h⟩
  · exact ⟨_, h⟩
  · exact ⟨_, h⟩
def four : List D := [.non, .int 5, .tup [], .str "strong"]
theorem fourth_p {n : Nat} {T : List Tie} {s : D} {ρ : DL.Env} (w : Web n T) (hs : Sway n T s) (h : J n T s ρ) : Dr 1 (fourth ρ) (fun o => o = .next ρ) := by
  obtain ⟨r, hr⟩ := str_settled hs
  have me : (eFr (oLst (aCons (eC .non) (aCons (eC (.int 5)) (aCons (eTup aNil) (aCons (eC (.str "strong")) aNil)))))) ρ = pure (.lst four) := rfl
  have pk := pick_p (ds := four) (by simp [four]) (by simp [four])
  unfold fourth
  refine (dr_ifP (k := 1) (k2 := 0) (P := fun c => c = false) (R := fun o => o = .next ρ) ?_ (fun c => by cases c) (fun _ => .of (a := .next ρ) rfl rfl)).mono (by omega) fun _ q => q
  unfold tBool eBin
  refine (Dr.bind (k := 1) (k2 := 0) (P := fun d => d = .bl false) (Dr.bind (k := 1) (k2 := 0) (P := fun d => d = word "answer") ?_ fun d hd => ?_) fun d hd => ?_).mono (by omega) fun _ q => q
  · have e : eDef 3 m_strong_fault (aCons (eVar 3) (aCons (eVar 4) (aCons (eDef 2 m__law_pick (aCons (eVar 1) (aCons (eFr (oLst (aCons (eC .non) (aCons (eC (.int 5)) (aCons (eTup aNil) (aCons (eC (.str "strong")) aNil)))))) aNil))) aNil))) ρ = (m__law_pick [.pen, .lst four] >>= fun v => m_strong_fault [.int n, .lst (T.map tieD), v]) := by
      have e2 := def2_p (m := m__law_pick) (var_p h.pen) me
      rw [← e2]
      generalize eDef 2 m__law_pick _ = ee
      generalize m_strong_fault = mm
      unfold eDef aCons aNil
      rw [var_p h.n3, var_p h.t4]
      funext π
      simp only [mm_bind, bind_p]
      cases ee ρ π with
      | none => rfl
      | some a => rfl
    rw [e]
    refine (Dr.bind (k2 := 0) pk fun v hv => ?_).mono (by omega) fun _ q => q
    simp only [four, List.mem_cons, List.not_mem_nil, or_false] at hv
    rcases hv with rfl | rfl | rfl | rfl
    · exact .of (strong_fault_word (s := s) w hr (by kernel_rfl) (by kernel_rfl)) rfl
    · exact .of (strong_fault_word (s := s) w hr (by kernel_rfl) (by kernel_rfl)) rfl
    · exact .of (strong_fault_word (s := s) w hr (by kernel_rfl) (by kernel_rfl)) rfl
    · exact .of (strong_fault_word (s := s) w hr (by kernel_rfl) (by kernel_rfl)) rfl
  · subst hd
    have e3 : eTup (aCons (eC (.str "answer")) aNil) ρ = pure (word "answer") := eTup_p rfl (by simp)
    rw [e3, bind_p, show dNe (word "answer") (word "answer") = some (.bl false) by kernel_rfl]
    exact .ret rfl
  · subst hd
    exact .ret rfl
theorem outerO_p {ρ : DL.Env} (h : O1 ρ) : Dr 219 (outerB ρ) (fun o => ∃ ρ2, o = .next ρ2 ∧ O1 ρ2) := by
  unfold outerB
  refine (dr_seqN (k := 152) (k2 := 67) (I := fun ρ1 => ∃ n T, Web n T ∧ ρ1 = (ρ.set 3 (.sh (.int n))).set 4 (.sh (.lst (T.map tieD)))) ?_ fun ρ1 q => ?_).mono (by omega) fun _ q => q
  · unfold sAsgG
    rw [def1_p' (var_p h.2)]
    refine (Dr.bind (k2 := 0) some_web_p fun d hd => ?_).mono (by omega) fun _ q => q
    obtain ⟨n, T, w, _, rfl⟩ := hd
    exact .ret ⟨_, rfl, n, T, w, rfl⟩
  obtain ⟨n, T, w, rfl⟩ := q
  have hN := h.1
  have k3 : ((ρ.set 3 (.sh (.int n))).set 4 (.sh (.lst (T.map tieD))))[3]? = some (.sh (.int n)) := by
    rw [List.getElem?_set_ne (by decide), List.getElem?_set_self (by omega)]
  have k4 : ((ρ.set 3 (.sh (.int n))).set 4 (.sh (.lst (T.map tieD))))[4]? = some (.sh (.lst (T.map tieD))) := by
    rw [List.getElem?_set_self (by simp; omega)]
  have k1 : ((ρ.set 3 (.sh (.int n))).set 4 (.sh (.lst (T.map tieD))))[1]? = some (.sh .pen) := by
    rw [List.getElem?_set_ne (by decide), List.getElem?_set_ne (by decide)]; exact h.2
  have kN : ((ρ.set 3 (.sh (.int n))).set 4 (.sh (.lst (T.map tieD)))).length = 13 := by simpa using hN
  generalize (ρ.set 3 (.sh (.int n))).set 4 (.sh (.lst (T.map tieD))) = ρ1 at k3 k4 k1 kN
  obtain ⟨s, hs, es⟩ := str_of w
  rw [seq_next (asg_p ((def2_p (var_p k3) (var_p k4)).trans es))]
  have j : J n T s (ρ1.set 5 (.sh s)) := ⟨by simpa using kN, by rw [List.getElem?_set_ne (by decide)]; exact k1, by rw [List.getElem?_set_ne (by decide)]; exact k3, by rw [List.getElem?_set_ne (by decide)]; exact k4, by rw [List.getElem?_set_self (by omega)]⟩
  refine (dr_seqN (k := 66) (k2 := 1) (loop6_p w hs j) fun ρ2 j2 => ?_).mono (by omega) fun _ q => q
  refine (fourth_p w hs j2).mono (Nat.le_refl _) fun o ho => ?_
  exact ⟨ρ2, ho, j2.len, j2.pen⟩
theorem plain : ∀ π : Pen, π.new → ∃ π', b_law (.un :: .sh .pen :: List.replicate 11 .un) π = some (.ret (.bl true), π') := by
  intro π hπ
  obtain ⟨_, _, hc, h1, h2⟩ := hπ
  have it : itR1 (aCons (eC (.int 3)) aNil) (.un :: .sh .pen :: List.replicate 11 .un) = pure (rng 0 3) := itR1_p (n := 3) (z := 3) (args1 rfl) rfl (by omega)
  have lp := dr_loop (k := 219) (tgf := gNm 2) (body := outerB) (fun _ ρ => O1 ρ) (rng 0 3) 0 (.un :: .sh .pen :: List.replicate 11 .un) (fun j d ρ hd q => ⟨_, rfl, outerO_p ⟨by simpa using q.1, by rw [List.getElem?_set_ne (by decide)]; exact q.2⟩⟩) ⟨rfl, rfl⟩
  have all : Dr (3 * 219 + 0) (b_law (.un :: .sh .pen :: List.replicate 11 .un)) (fun o => o = .ret (.bl true)) := by
    rw [b_law_eq]
    refine dr_seqN (I := fun ρ2 => O1 ρ2) (by rw [for_p it]; rw [rng_length] at lp; exact lp) fun ρ2 _ => .of (tail_p ρ2) rfl
  obtain ⟨o, π', e, rfl, _, _⟩ := all π ⟨h1, by omega, by omega⟩ (by omega)
  exact ⟨π', e⟩
end Lk65
set_option Elab.async false
set_option linter.all false
set_option maxRecDepth 100000
set_option maxHeartbeats 4000000
namespace Lk65
open PySem L2 DL

theorem kit_ne {K : PySem.W.Frag} {t : Value} {C : Addr} (ht : (t == Value.ref C) = false) (h1 : PySem.W.isClsIn K C = true) (h2 : PySem.W.typeIn K (.ref C) = some (.type "type")) (h3 : PySem.W.subIn K t (.ref C) = some false) : PySem.W.kitOne K t (.ref C) = some false := by
  have e1 : ((PySem.W.clsIn K C).isSome && PySem.W.typeIn K (.ref C) == some (.type "type")) = true := by
    have h1' : (PySem.W.clsIn K C).isSome = true := h1
    rw [h1', h2]; rfl
  show (if (t == Value.ref C) = true then some true else (if ((PySem.W.clsIn K C).isSome && PySem.W.typeIn K (.ref C) == some (.type "type")) = true then PySem.W.subIn K t (.ref C) else none)) = some false
  rw [ht, if_neg Bool.false_ne_true, if_pos e1, h3]
theorem kit_tf {K : PySem.W.Frag} {C : Addr} {a : String} (hm : PySem.W.kitMeta a = true) (h3 : PySem.W.subIn K (.ref C) (.type a) = some false) : PySem.W.kitOne K (.ref C) (.type a) = some false := by
  show (if (Value.ref C == Value.type a) = true then some true else (if PySem.W.kitMeta a = true then PySem.W.subIn K (.ref C) (.type a) else none)) = some false
  rw [show (Value.ref C == Value.type a) = false from rfl, if_neg Bool.false_ne_true, if_pos hm, h3]
theorem kit_same {K : PySem.W.Frag} {C : Addr} : PySem.W.kitOne K (.ref C) (.ref C) = some true := by
  show (if (Value.ref C == Value.ref C) = true then some true else _) = some true
  rw [if_pos (by simp)]
theorem sub_ty {K : PySem.W.Frag} {C : Addr} : ∀ a ∈ bNames, PySem.W.subIn K (.type a) (.ref C) = some false := by
  intro a ha
  have : ∀ a ∈ bNames, ∃ l, PySem.fastBuiltinMro a = some l ∧ l.all (fun v => match v with | .type _ => true | _ => false) = true := by decide +kernel
  obtain ⟨l, e, q⟩ := this a ha
  show (PySem.fastBuiltinMro a).map (·.contains (Value.ref C)) = some false
  rw [e]
  show some (l.contains (Value.ref C)) = some false
  congr 1
  rw [Bool.eq_false_iff]
  intro z
  have z2 := List.all_eq_true.mp q _ (List.contains_iff_mem.mp z)
  cases z2
theorem bMeta : ∀ a ∈ bNames, PySem.W.kitMeta a = true := by decide +kernel
theorem ref_ne {C D : Addr} (q : C ≠ D) : (Value.ref C == Value.ref D) = false := by simpa using q
section
variable {l : PySem.W.OpenLaw} {w : World} {K : PySem.W.Frag} {h : Heap} {mg : Str → Option Value} {fa : Addr}
  {C_Pairing C_Strong C_NotStrong f_is_integer f_is_row f_kept f_are_rows f_used f_Pairing_init f_Pairing_eq f_is_thing f_is_tie f_numbered f_of_web f_all_words f_Strong_init f_Strong_eq f_NotStrong_init f_NotStrong_eq f_tie_rows f_both_tied f_pair_sort f_settled_strong f_is_pair_of_things f_strong_fault f__law_pen f__law_draw f__law_pick f__law_shuffled f__law_e_lots f__law_e_words f__law_e_apart f__law_e_missing f__law_e_pairs f__law_e_some_web f__law_e_tied f__law_e_both f__law_e_strong f__law_e_is_pair f__law_due f__law_some_pair f_law : Addr}
  {od_is_integer an_is_integer od_is_row an_is_row od_kept an_kept od_are_rows an_are_rows od_used an_used od_Pairing_init an_Pairing_init od_Pairing_eq an_Pairing_eq od_is_thing an_is_thing od_is_tie an_is_tie od_numbered an_numbered od_of_web an_of_web od_all_words an_all_words od_Strong_init an_Strong_init od_Strong_eq an_Strong_eq od_NotStrong_init an_NotStrong_init od_NotStrong_eq an_NotStrong_eq od_tie_rows an_tie_rows od_both_tied an_both_tied od_pair_sort an_pair_sort od_settled_strong an_settled_strong od_is_pair_of_things an_is_pair_of_things od_strong_fault an_strong_fault od__law_pen an__law_pen od__law_draw an__law_draw od__law_pick an__law_pick od__law_shuffled an__law_shuffled od__law_e_lots an__law_e_lots od__law_e_words an__law_e_words od__law_e_apart an__law_e_apart od__law_e_missing an__law_e_missing od__law_e_pairs an__law_e_pairs od__law_e_some_web an__law_e_some_web od__law_e_tied an__law_e_tied od__law_e_both an__law_e_both od__law_e_strong an__law_e_strong od__law_e_is_pair an__law_e_is_pair od__law_due an__law_due od__law_some_pair an__law_some_pair od_law an_law : Option Addr}
  {sl_is_integer sl_is_row sl_kept sl_are_rows sl_used sl_Pairing_init sl_Pairing_eq sl_is_thing sl_is_tie sl_numbered sl_of_web sl_all_words sl_Strong_init sl_Strong_eq sl_NotStrong_init sl_NotStrong_eq sl_tie_rows sl_both_tied sl_pair_sort sl_settled_strong sl_is_pair_of_things sl_strong_fault sl__law_pen sl__law_draw sl__law_pick sl__law_shuffled sl__law_e_lots sl__law_e_words sl__law_e_apart sl__law_e_missing sl__law_e_pairs sl__law_e_some_web sl__law_e_tied sl__law_e_both sl__law_e_strong sl__law_e_is_pair sl__law_due sl__law_some_pair sl_law : Array (Option Value)}
  {oc_is_integer kV_is_integer dc_is_integer pm_is_integer cd_is_integer ct_is_integer oc_is_row kV_is_row dc_is_row pm_is_row cd_is_row ct_is_row oc_kept kV_kept dc_kept pm_kept cd_kept ct_kept oc_are_rows kV_are_rows dc_are_rows pm_are_rows cd_are_rows ct_are_rows oc_used kV_used dc_used pm_used cd_used ct_used oc_Pairing_init kV_Pairing_init dc_Pairing_init pm_Pairing_init cd_Pairing_init ct_Pairing_init oc_Pairing_eq kV_Pairing_eq dc_Pairing_eq pm_Pairing_eq cd_Pairing_eq ct_Pairing_eq oc_is_thing kV_is_thing dc_is_thing pm_is_thing cd_is_thing ct_is_thing oc_is_tie kV_is_tie dc_is_tie pm_is_tie cd_is_tie ct_is_tie oc_numbered kV_numbered dc_numbered pm_numbered cd_numbered ct_numbered oc_of_web kV_of_web dc_of_web pm_of_web cd_of_web ct_of_web oc_all_words kV_all_words dc_all_words pm_all_words cd_all_words ct_all_words oc_Strong_init kV_Strong_init dc_Strong_init pm_Strong_init cd_Strong_init ct_Strong_init oc_Strong_eq kV_Strong_eq dc_Strong_eq pm_Strong_eq cd_Strong_eq ct_Strong_eq oc_NotStrong_init kV_NotStrong_init dc_NotStrong_init pm_NotStrong_init cd_NotStrong_init ct_NotStrong_init oc_NotStrong_eq kV_NotStrong_eq dc_NotStrong_eq pm_NotStrong_eq cd_NotStrong_eq ct_NotStrong_eq oc_tie_rows kV_tie_rows dc_tie_rows pm_tie_rows cd_tie_rows ct_tie_rows oc_both_tied kV_both_tied dc_both_tied pm_both_tied cd_both_tied ct_both_tied oc_pair_sort kV_pair_sort dc_pair_sort pm_pair_sort cd_pair_sort ct_pair_sort oc_settled_strong kV_settled_strong dc_settled_strong pm_settled_strong cd_settled_strong ct_settled_strong oc_is_pair_of_things kV_is_pair_of_things dc_is_pair_of_things pm_is_pair_of_things cd_is_pair_of_things ct_is_pair_of_things oc_strong_fault kV_strong_fault dc_strong_fault pm_strong_fault cd_strong_fault ct_strong_fault oc__law_pen kV__law_pen dc__law_pen pm__law_pen cd__law_pen ct__law_pen oc__law_draw kV__law_draw dc__law_draw pm__law_draw cd__law_draw ct__law_draw oc__law_pick kV__law_pick dc__law_pick pm__law_pick cd__law_pick ct__law_pick oc__law_shuffled kV__law_shuffled dc__law_shuffled pm__law_shuffled cd__law_shuffled ct__law_shuffled oc__law_e_lots kV__law_e_lots dc__law_e_lots pm__law_e_lots cd__law_e_lots ct__law_e_lots oc__law_e_words kV__law_e_words dc__law_e_words pm__law_e_words cd__law_e_words ct__law_e_words oc__law_e_apart kV__law_e_apart dc__law_e_apart pm__law_e_apart cd__law_e_apart ct__law_e_apart oc__law_e_missing kV__law_e_missing dc__law_e_missing pm__law_e_missing cd__law_e_missing ct__law_e_missing oc__law_e_pairs kV__law_e_pairs dc__law_e_pairs pm__law_e_pairs cd__law_e_pairs ct__law_e_pairs oc__law_e_some_web kV__law_e_some_web dc__law_e_some_web pm__law_e_some_web cd__law_e_some_web ct__law_e_some_web oc__law_e_tied kV__law_e_tied dc__law_e_tied pm__law_e_tied cd__law_e_tied ct__law_e_tied oc__law_e_both kV__law_e_both dc__law_e_both pm__law_e_both cd__law_e_both ct__law_e_both oc__law_e_strong kV__law_e_strong dc__law_e_strong pm__law_e_strong cd__law_e_strong ct__law_e_strong oc__law_e_is_pair kV__law_e_is_pair dc__law_e_is_pair pm__law_e_is_pair cd__law_e_is_pair ct__law_e_is_pair oc__law_due kV__law_due dc__law_due pm__law_due cd__law_due ct__law_due oc__law_some_pair kV__law_some_pair dc__law_some_pair pm__law_some_pair cd__law_some_pair ct__law_some_pair oc_law kV_law dc_law pm_law cd_law ct_law : Value}
  {tk_MOST_THINGS : Tok}
theorem all_mk (X : K.In h) (G : h.Ns mainGlobals mg) (hfa : mg "law" = some (.ref fa))
    (a_Pairing : PySem.W.nsIn K mainGlobals "Pairing" = some (some (.ref C_Pairing)))
    (a_Strong : PySem.W.nsIn K mainGlobals "Strong" = some (some (.ref C_Strong)))
    (a_NotStrong : PySem.W.nsIn K mainGlobals "NotStrong" = some (some (.ref C_NotStrong)))
    (a_is_integer : PySem.W.nsIn K mainGlobals "is_integer" = some (some (.ref f_is_integer)))
    (l_is_integer : K.lookup f_is_integer = some ⟨oc_is_integer, od_is_integer, .func (PySem.W.fnOf "is_integer" "is_integer" (defArgs s_is_integer) (defBody s_is_integer) (defScope s_is_integer) .none kV_is_integer dc_is_integer pm_is_integer an_is_integer cd_is_integer ct_is_integer), sl_is_integer⟩)
    (c_is_integer : PySem.W.codeIn K cd_is_integer "is_integer" = true)
    (k_is_integer : PySem.W.keepIn K (.ref f_is_integer) = true)
    (a_is_row : PySem.W.nsIn K mainGlobals "is_row" = some (some (.ref f_is_row)))
    (l_is_row : K.lookup f_is_row = some ⟨oc_is_row, od_is_row, .func (PySem.W.fnOf "is_row" "is_row" (defArgs s_is_row) (defBody s_is_row) (defScope s_is_row) .none kV_is_row dc_is_row pm_is_row an_is_row cd_is_row ct_is_row), sl_is_row⟩)
    (c_is_row : PySem.W.codeIn K cd_is_row "is_row" = true)
    (k_is_row : PySem.W.keepIn K (.ref f_is_row) = true)
    (a_kept : PySem.W.nsIn K mainGlobals "kept" = some (some (.ref f_kept)))
    (l_kept : K.lookup f_kept = some ⟨oc_kept, od_kept, .func (PySem.W.fnOf "kept" "kept" (defArgs s_kept) (defBody s_kept) (defScope s_kept) .none kV_kept dc_kept pm_kept an_kept cd_kept ct_kept), sl_kept⟩)
    (c_kept : PySem.W.codeIn K cd_kept "kept" = true)
    (k_kept : PySem.W.keepIn K (.ref f_kept) = true)
    (a_are_rows : PySem.W.nsIn K mainGlobals "are_rows" = some (some (.ref f_are_rows)))
    (l_are_rows : K.lookup f_are_rows = some ⟨oc_are_rows, od_are_rows, .func (PySem.W.fnOf "are_rows" "are_rows" (defArgs s_are_rows) (defBody s_are_rows) (defScope s_are_rows) .none kV_are_rows dc_are_rows pm_are_rows an_are_rows cd_are_rows ct_are_rows), sl_are_rows⟩)
    (c_are_rows : PySem.W.codeIn K cd_are_rows "are_rows" = true)
    (k_are_rows : PySem.W.keepIn K (.ref f_are_rows) = true)
    (a_used : PySem.W.nsIn K mainGlobals "used" = some (some (.ref f_used)))
    (l_used : K.lookup f_used = some ⟨oc_used, od_used, .func (PySem.W.fnOf "used" "used" (defArgs s_used) (defBody s_used) (defScope s_used) .none kV_used dc_used pm_used an_used cd_used ct_used), sl_used⟩)
    (c_used : PySem.W.codeIn K cd_used "used" = true)
    (k_used : PySem.W.keepIn K (.ref f_used) = true)
    (a_Pairing_init : PySem.W.findIn K (.ref C_Pairing) "__init__" = some (some (.ref f_Pairing_init)))
    (i_Pairing_init : PySem.W.isFn K (.ref f_Pairing_init) = true)
    (l_Pairing_init : K.lookup f_Pairing_init = some ⟨oc_Pairing_init, od_Pairing_init, .func (PySem.W.fnOf "__init__" "Pairing.__init__" (defArgs s_Pairing_init) (defBody s_Pairing_init) (defScope s_Pairing_init) .none kV_Pairing_init dc_Pairing_init pm_Pairing_init an_Pairing_init cd_Pairing_init ct_Pairing_init), sl_Pairing_init⟩)
    (c_Pairing_init : PySem.W.codeIn K cd_Pairing_init "Pairing.__init__" = true)
    (k_Pairing_init : PySem.W.keepIn K (.ref f_Pairing_init) = true)
    (a_Pairing_eq : PySem.W.findIn K (.ref C_Pairing) "__eq__" = some (some (.ref f_Pairing_eq)))
    (i_Pairing_eq : PySem.W.isFn K (.ref f_Pairing_eq) = true)
    (l_Pairing_eq : K.lookup f_Pairing_eq = some ⟨oc_Pairing_eq, od_Pairing_eq, .func (PySem.W.fnOf "__eq__" "Pairing.__eq__" (defArgs s_Pairing_eq) (defBody s_Pairing_eq) (defScope s_Pairing_eq) .none kV_Pairing_eq dc_Pairing_eq pm_Pairing_eq an_Pairing_eq cd_Pairing_eq ct_Pairing_eq), sl_Pairing_eq⟩)
    (c_Pairing_eq : PySem.W.codeIn K cd_Pairing_eq "Pairing.__eq__" = true)
    (k_Pairing_eq : PySem.W.keepIn K (.ref f_Pairing_eq) = true)
    (a_is_thing : PySem.W.nsIn K mainGlobals "is_thing" = some (some (.ref f_is_thing)))
    (l_is_thing : K.lookup f_is_thing = some ⟨oc_is_thing, od_is_thing, .func (PySem.W.fnOf "is_thing" "is_thing" (defArgs s_is_thing) (defBody s_is_thing) (defScope s_is_thing) .none kV_is_thing dc_is_thing pm_is_thing an_is_thing cd_is_thing ct_is_thing), sl_is_thing⟩)
    (c_is_thing : PySem.W.codeIn K cd_is_thing "is_thing" = true)
    (k_is_thing : PySem.W.keepIn K (.ref f_is_thing) = true)
    (a_is_tie : PySem.W.nsIn K mainGlobals "is_tie" = some (some (.ref f_is_tie)))
    (l_is_tie : K.lookup f_is_tie = some ⟨oc_is_tie, od_is_tie, .func (PySem.W.fnOf "is_tie" "is_tie" (defArgs s_is_tie) (defBody s_is_tie) (defScope s_is_tie) .none kV_is_tie dc_is_tie pm_is_tie an_is_tie cd_is_tie ct_is_tie), sl_is_tie⟩)
    (c_is_tie : PySem.W.codeIn K cd_is_tie "is_tie" = true)
    (k_is_tie : PySem.W.keepIn K (.ref f_is_tie) = true)
    (a_numbered : PySem.W.nsIn K mainGlobals "numbered" = some (some (.ref f_numbered)))
    (l_numbered : K.lookup f_numbered = some ⟨oc_numbered, od_numbered, .func (PySem.W.fnOf "numbered" "numbered" (defArgs s_numbered) (defBody s_numbered) (defScope s_numbered) .none kV_numbered dc_numbered pm_numbered an_numbered cd_numbered ct_numbered), sl_numbered⟩)
    (c_numbered : PySem.W.codeIn K cd_numbered "numbered" = true)
    (k_numbered : PySem.W.keepIn K (.ref f_numbered) = true)
    (a_of_web : PySem.W.nsIn K mainGlobals "of_web" = some (some (.ref f_of_web)))
    (l_of_web : K.lookup f_of_web = some ⟨oc_of_web, od_of_web, .func (PySem.W.fnOf "of_web" "of_web" (defArgs s_of_web) (defBody s_of_web) (defScope s_of_web) .none kV_of_web dc_of_web pm_of_web an_of_web cd_of_web ct_of_web), sl_of_web⟩)
    (c_of_web : PySem.W.codeIn K cd_of_web "of_web" = true)
    (k_of_web : PySem.W.keepIn K (.ref f_of_web) = true)
    (a_all_words : PySem.W.nsIn K mainGlobals "all_words" = some (some (.ref f_all_words)))
    (l_all_words : K.lookup f_all_words = some ⟨oc_all_words, od_all_words, .func (PySem.W.fnOf "all_words" "all_words" (defArgs s_all_words) (defBody s_all_words) (defScope s_all_words) .none kV_all_words dc_all_words pm_all_words an_all_words cd_all_words ct_all_words), sl_all_words⟩)
    (c_all_words : PySem.W.codeIn K cd_all_words "all_words" = true)
    (k_all_words : PySem.W.keepIn K (.ref f_all_words) = true)
    (a_Strong_init : PySem.W.findIn K (.ref C_Strong) "__init__" = some (some (.ref f_Strong_init)))
    (i_Strong_init : PySem.W.isFn K (.ref f_Strong_init) = true)
    (l_Strong_init : K.lookup f_Strong_init = some ⟨oc_Strong_init, od_Strong_init, .func (PySem.W.fnOf "__init__" "Strong.__init__" (defArgs s_Strong_init) (defBody s_Strong_init) (defScope s_Strong_init) .none kV_Strong_init dc_Strong_init pm_Strong_init an_Strong_init cd_Strong_init ct_Strong_init), sl_Strong_init⟩)
    (c_Strong_init : PySem.W.codeIn K cd_Strong_init "Strong.__init__" = true)
    (k_Strong_init : PySem.W.keepIn K (.ref f_Strong_init) = true)
    (a_Strong_eq : PySem.W.findIn K (.ref C_Strong) "__eq__" = some (some (.ref f_Strong_eq)))
    (i_Strong_eq : PySem.W.isFn K (.ref f_Strong_eq) = true)
    (l_Strong_eq : K.lookup f_Strong_eq = some ⟨oc_Strong_eq, od_Strong_eq, .func (PySem.W.fnOf "__eq__" "Strong.__eq__" (defArgs s_Strong_eq) (defBody s_Strong_eq) (defScope s_Strong_eq) .none kV_Strong_eq dc_Strong_eq pm_Strong_eq an_Strong_eq cd_Strong_eq ct_Strong_eq), sl_Strong_eq⟩)
    (c_Strong_eq : PySem.W.codeIn K cd_Strong_eq "Strong.__eq__" = true)
    (k_Strong_eq : PySem.W.keepIn K (.ref f_Strong_eq) = true)
    (a_NotStrong_init : PySem.W.findIn K (.ref C_NotStrong) "__init__" = some (some (.ref f_NotStrong_init)))
    (i_NotStrong_init : PySem.W.isFn K (.ref f_NotStrong_init) = true)
    (l_NotStrong_init : K.lookup f_NotStrong_init = some ⟨oc_NotStrong_init, od_NotStrong_init, .func (PySem.W.fnOf "__init__" "NotStrong.__init__" (defArgs s_NotStrong_init) (defBody s_NotStrong_init) (defScope s_NotStrong_init) .none kV_NotStrong_init dc_NotStrong_init pm_NotStrong_init an_NotStrong_init cd_NotStrong_init ct_NotStrong_init), sl_NotStrong_init⟩)
    (c_NotStrong_init : PySem.W.codeIn K cd_NotStrong_init "NotStrong.__init__" = true)
    (k_NotStrong_init : PySem.W.keepIn K (.ref f_NotStrong_init) = true)
    (a_NotStrong_eq : PySem.W.findIn K (.ref C_NotStrong) "__eq__" = some (some (.ref f_NotStrong_eq)))
    (i_NotStrong_eq : PySem.W.isFn K (.ref f_NotStrong_eq) = true)
    (l_NotStrong_eq : K.lookup f_NotStrong_eq = some ⟨oc_NotStrong_eq, od_NotStrong_eq, .func (PySem.W.fnOf "__eq__" "NotStrong.__eq__" (defArgs s_NotStrong_eq) (defBody s_NotStrong_eq) (defScope s_NotStrong_eq) .none kV_NotStrong_eq dc_NotStrong_eq pm_NotStrong_eq an_NotStrong_eq cd_NotStrong_eq ct_NotStrong_eq), sl_NotStrong_eq⟩)
    (c_NotStrong_eq : PySem.W.codeIn K cd_NotStrong_eq "NotStrong.__eq__" = true)
    (k_NotStrong_eq : PySem.W.keepIn K (.ref f_NotStrong_eq) = true)
    (a_tie_rows : PySem.W.nsIn K mainGlobals "tie_rows" = some (some (.ref f_tie_rows)))
    (l_tie_rows : K.lookup f_tie_rows = some ⟨oc_tie_rows, od_tie_rows, .func (PySem.W.fnOf "tie_rows" "tie_rows" (defArgs s_tie_rows) (defBody s_tie_rows) (defScope s_tie_rows) .none kV_tie_rows dc_tie_rows pm_tie_rows an_tie_rows cd_tie_rows ct_tie_rows), sl_tie_rows⟩)
    (c_tie_rows : PySem.W.codeIn K cd_tie_rows "tie_rows" = true)
    (k_tie_rows : PySem.W.keepIn K (.ref f_tie_rows) = true)
    (a_both_tied : PySem.W.nsIn K mainGlobals "both_tied" = some (some (.ref f_both_tied)))
    (l_both_tied : K.lookup f_both_tied = some ⟨oc_both_tied, od_both_tied, .func (PySem.W.fnOf "both_tied" "both_tied" (defArgs s_both_tied) (defBody s_both_tied) (defScope s_both_tied) .none kV_both_tied dc_both_tied pm_both_tied an_both_tied cd_both_tied ct_both_tied), sl_both_tied⟩)
    (c_both_tied : PySem.W.codeIn K cd_both_tied "both_tied" = true)
    (k_both_tied : PySem.W.keepIn K (.ref f_both_tied) = true)
    (a_pair_sort : PySem.W.nsIn K mainGlobals "pair_sort" = some (some (.ref f_pair_sort)))
    (l_pair_sort : K.lookup f_pair_sort = some ⟨oc_pair_sort, od_pair_sort, .func (PySem.W.fnOf "pair_sort" "pair_sort" (defArgs s_pair_sort) (defBody s_pair_sort) (defScope s_pair_sort) .none kV_pair_sort dc_pair_sort pm_pair_sort an_pair_sort cd_pair_sort ct_pair_sort), sl_pair_sort⟩)
    (c_pair_sort : PySem.W.codeIn K cd_pair_sort "pair_sort" = true)
    (k_pair_sort : PySem.W.keepIn K (.ref f_pair_sort) = true)
    (a_settled_strong : PySem.W.nsIn K mainGlobals "settled_strong" = some (some (.ref f_settled_strong)))
    (l_settled_strong : K.lookup f_settled_strong = some ⟨oc_settled_strong, od_settled_strong, .func (PySem.W.fnOf "settled_strong" "settled_strong" (defArgs s_settled_strong) (defBody s_settled_strong) (defScope s_settled_strong) .none kV_settled_strong dc_settled_strong pm_settled_strong an_settled_strong cd_settled_strong ct_settled_strong), sl_settled_strong⟩)
    (c_settled_strong : PySem.W.codeIn K cd_settled_strong "settled_strong" = true)
    (k_settled_strong : PySem.W.keepIn K (.ref f_settled_strong) = true)
    (a_is_pair_of_things : PySem.W.nsIn K mainGlobals "is_pair_of_things" = some (some (.ref f_is_pair_of_things)))
    (l_is_pair_of_things : K.lookup f_is_pair_of_things = some ⟨oc_is_pair_of_things, od_is_pair_of_things, .func (PySem.W.fnOf "is_pair_of_things" "is_pair_of_things" (defArgs s_is_pair_of_things) (defBody s_is_pair_of_things) (defScope s_is_pair_of_things) .none kV_is_pair_of_things dc_is_pair_of_things pm_is_pair_of_things an_is_pair_of_things cd_is_pair_of_things ct_is_pair_of_things), sl_is_pair_of_things⟩)
    (c_is_pair_of_things : PySem.W.codeIn K cd_is_pair_of_things "is_pair_of_things" = true)
    (k_is_pair_of_things : PySem.W.keepIn K (.ref f_is_pair_of_things) = true)
    (a_strong_fault : PySem.W.nsIn K mainGlobals "strong_fault" = some (some (.ref f_strong_fault)))
    (l_strong_fault : K.lookup f_strong_fault = some ⟨oc_strong_fault, od_strong_fault, .func (PySem.W.fnOf "strong_fault" "strong_fault" (defArgs s_strong_fault) (defBody s_strong_fault) (defScope s_strong_fault) .none kV_strong_fault dc_strong_fault pm_strong_fault an_strong_fault cd_strong_fault ct_strong_fault), sl_strong_fault⟩)
    (c_strong_fault : PySem.W.codeIn K cd_strong_fault "strong_fault" = true)
    (k_strong_fault : PySem.W.keepIn K (.ref f_strong_fault) = true)
    (a__law_pen : PySem.W.nsIn K mainGlobals "_law_pen" = some (some (.ref f__law_pen)))
    (l__law_pen : K.lookup f__law_pen = some ⟨oc__law_pen, od__law_pen, .func (PySem.W.fnOf "_law_pen" "_law_pen" (defArgs s__law_pen) (defBody s__law_pen) (defScope s__law_pen) .none kV__law_pen dc__law_pen pm__law_pen an__law_pen cd__law_pen ct__law_pen), sl__law_pen⟩)
    (c__law_pen : PySem.W.codeIn K cd__law_pen "_law_pen" = true)
    (k__law_pen : PySem.W.keepIn K (.ref f__law_pen) = true)
    (a__law_draw : PySem.W.nsIn K mainGlobals "_law_draw" = some (some (.ref f__law_draw)))
    (l__law_draw : K.lookup f__law_draw = some ⟨oc__law_draw, od__law_draw, .func (PySem.W.fnOf "_law_draw" "_law_draw" (defArgs s__law_draw) (defBody s__law_draw) (defScope s__law_draw) .none kV__law_draw dc__law_draw pm__law_draw an__law_draw cd__law_draw ct__law_draw), sl__law_draw⟩)
    (c__law_draw : PySem.W.codeIn K cd__law_draw "_law_draw" = true)
    (k__law_draw : PySem.W.keepIn K (.ref f__law_draw) = true)
    (a__law_pick : PySem.W.nsIn K mainGlobals "_law_pick" = some (some (.ref f__law_pick)))
    (l__law_pick : K.lookup f__law_pick = some ⟨oc__law_pick, od__law_pick, .func (PySem.W.fnOf "_law_pick" "_law_pick" (defArgs s__law_pick) (defBody s__law_pick) (defScope s__law_pick) .none kV__law_pick dc__law_pick pm__law_pick an__law_pick cd__law_pick ct__law_pick), sl__law_pick⟩)
    (c__law_pick : PySem.W.codeIn K cd__law_pick "_law_pick" = true)
    (k__law_pick : PySem.W.keepIn K (.ref f__law_pick) = true)
    (a__law_shuffled : PySem.W.nsIn K mainGlobals "_law_shuffled" = some (some (.ref f__law_shuffled)))
    (l__law_shuffled : K.lookup f__law_shuffled = some ⟨oc__law_shuffled, od__law_shuffled, .func (PySem.W.fnOf "_law_shuffled" "_law_shuffled" (defArgs s__law_shuffled) (defBody s__law_shuffled) (defScope s__law_shuffled) .none kV__law_shuffled dc__law_shuffled pm__law_shuffled an__law_shuffled cd__law_shuffled ct__law_shuffled), sl__law_shuffled⟩)
    (c__law_shuffled : PySem.W.codeIn K cd__law_shuffled "_law_shuffled" = true)
    (k__law_shuffled : PySem.W.keepIn K (.ref f__law_shuffled) = true)
    (a__law_e_lots : PySem.W.nsIn K mainGlobals "_law_e_lots" = some (some (.ref f__law_e_lots)))
    (l__law_e_lots : K.lookup f__law_e_lots = some ⟨oc__law_e_lots, od__law_e_lots, .func (PySem.W.fnOf "_law_e_lots" "_law_e_lots" (defArgs s__law_e_lots) (defBody s__law_e_lots) (defScope s__law_e_lots) .none kV__law_e_lots dc__law_e_lots pm__law_e_lots an__law_e_lots cd__law_e_lots ct__law_e_lots), sl__law_e_lots⟩)
    (c__law_e_lots : PySem.W.codeIn K cd__law_e_lots "_law_e_lots" = true)
    (k__law_e_lots : PySem.W.keepIn K (.ref f__law_e_lots) = true)
    (a__law_e_words : PySem.W.nsIn K mainGlobals "_law_e_words" = some (some (.ref f__law_e_words)))
    (l__law_e_words : K.lookup f__law_e_words = some ⟨oc__law_e_words, od__law_e_words, .func (PySem.W.fnOf "_law_e_words" "_law_e_words" (defArgs s__law_e_words) (defBody s__law_e_words) (defScope s__law_e_words) .none kV__law_e_words dc__law_e_words pm__law_e_words an__law_e_words cd__law_e_words ct__law_e_words), sl__law_e_words⟩)
    (c__law_e_words : PySem.W.codeIn K cd__law_e_words "_law_e_words" = true)
    (k__law_e_words : PySem.W.keepIn K (.ref f__law_e_words) = true)
    (a__law_e_apart : PySem.W.nsIn K mainGlobals "_law_e_apart" = some (some (.ref f__law_e_apart)))
    (l__law_e_apart : K.lookup f__law_e_apart = some ⟨oc__law_e_apart, od__law_e_apart, .func (PySem.W.fnOf "_law_e_apart" "_law_e_apart" (defArgs s__law_e_apart) (defBody s__law_e_apart) (defScope s__law_e_apart) .none kV__law_e_apart dc__law_e_apart pm__law_e_apart an__law_e_apart cd__law_e_apart ct__law_e_apart), sl__law_e_apart⟩)
    (c__law_e_apart : PySem.W.codeIn K cd__law_e_apart "_law_e_apart" = true)
    (k__law_e_apart : PySem.W.keepIn K (.ref f__law_e_apart) = true)
    (a__law_e_missing : PySem.W.nsIn K mainGlobals "_law_e_missing" = some (some (.ref f__law_e_missing)))
    (l__law_e_missing : K.lookup f__law_e_missing = some ⟨oc__law_e_missing, od__law_e_missing, .func (PySem.W.fnOf "_law_e_missing" "_law_e_missing" (defArgs s__law_e_missing) (defBody s__law_e_missing) (defScope s__law_e_missing) .none kV__law_e_missing dc__law_e_missing pm__law_e_missing an__law_e_missing cd__law_e_missing ct__law_e_missing), sl__law_e_missing⟩)
    (c__law_e_missing : PySem.W.codeIn K cd__law_e_missing "_law_e_missing" = true)
    (k__law_e_missing : PySem.W.keepIn K (.ref f__law_e_missing) = true)
    (a__law_e_pairs : PySem.W.nsIn K mainGlobals "_law_e_pairs" = some (some (.ref f__law_e_pairs)))
    (l__law_e_pairs : K.lookup f__law_e_pairs = some ⟨oc__law_e_pairs, od__law_e_pairs, .func (PySem.W.fnOf "_law_e_pairs" "_law_e_pairs" (defArgs s__law_e_pairs) (defBody s__law_e_pairs) (defScope s__law_e_pairs) .none kV__law_e_pairs dc__law_e_pairs pm__law_e_pairs an__law_e_pairs cd__law_e_pairs ct__law_e_pairs), sl__law_e_pairs⟩)
    (c__law_e_pairs : PySem.W.codeIn K cd__law_e_pairs "_law_e_pairs" = true)
    (k__law_e_pairs : PySem.W.keepIn K (.ref f__law_e_pairs) = true)
    (a__law_e_some_web : PySem.W.nsIn K mainGlobals "_law_e_some_web" = some (some (.ref f__law_e_some_web)))
    (l__law_e_some_web : K.lookup f__law_e_some_web = some ⟨oc__law_e_some_web, od__law_e_some_web, .func (PySem.W.fnOf "_law_e_some_web" "_law_e_some_web" (defArgs s__law_e_some_web) (defBody s__law_e_some_web) (defScope s__law_e_some_web) .none kV__law_e_some_web dc__law_e_some_web pm__law_e_some_web an__law_e_some_web cd__law_e_some_web ct__law_e_some_web), sl__law_e_some_web⟩)
    (c__law_e_some_web : PySem.W.codeIn K cd__law_e_some_web "_law_e_some_web" = true)
    (k__law_e_some_web : PySem.W.keepIn K (.ref f__law_e_some_web) = true)
    (a__law_e_tied : PySem.W.nsIn K mainGlobals "_law_e_tied" = some (some (.ref f__law_e_tied)))
    (l__law_e_tied : K.lookup f__law_e_tied = some ⟨oc__law_e_tied, od__law_e_tied, .func (PySem.W.fnOf "_law_e_tied" "_law_e_tied" (defArgs s__law_e_tied) (defBody s__law_e_tied) (defScope s__law_e_tied) .none kV__law_e_tied dc__law_e_tied pm__law_e_tied an__law_e_tied cd__law_e_tied ct__law_e_tied), sl__law_e_tied⟩)
    (c__law_e_tied : PySem.W.codeIn K cd__law_e_tied "_law_e_tied" = true)
    (k__law_e_tied : PySem.W.keepIn K (.ref f__law_e_tied) = true)
    (a__law_e_both : PySem.W.nsIn K mainGlobals "_law_e_both" = some (some (.ref f__law_e_both)))
    (l__law_e_both : K.lookup f__law_e_both = some ⟨oc__law_e_both, od__law_e_both, .func (PySem.W.fnOf "_law_e_both" "_law_e_both" (defArgs s__law_e_both) (defBody s__law_e_both) (defScope s__law_e_both) .none kV__law_e_both dc__law_e_both pm__law_e_both an__law_e_both cd__law_e_both ct__law_e_both), sl__law_e_both⟩)
    (c__law_e_both : PySem.W.codeIn K cd__law_e_both "_law_e_both" = true)
    (k__law_e_both : PySem.W.keepIn K (.ref f__law_e_both) = true)
    (a__law_e_strong : PySem.W.nsIn K mainGlobals "_law_e_strong" = some (some (.ref f__law_e_strong)))
    (l__law_e_strong : K.lookup f__law_e_strong = some ⟨oc__law_e_strong, od__law_e_strong, .func (PySem.W.fnOf "_law_e_strong" "_law_e_strong" (defArgs s__law_e_strong) (defBody s__law_e_strong) (defScope s__law_e_strong) .none kV__law_e_strong dc__law_e_strong pm__law_e_strong an__law_e_strong cd__law_e_strong ct__law_e_strong), sl__law_e_strong⟩)
    (c__law_e_strong : PySem.W.codeIn K cd__law_e_strong "_law_e_strong" = true)
    (k__law_e_strong : PySem.W.keepIn K (.ref f__law_e_strong) = true)
    (a__law_e_is_pair : PySem.W.nsIn K mainGlobals "_law_e_is_pair" = some (some (.ref f__law_e_is_pair)))
    (l__law_e_is_pair : K.lookup f__law_e_is_pair = some ⟨oc__law_e_is_pair, od__law_e_is_pair, .func (PySem.W.fnOf "_law_e_is_pair" "_law_e_is_pair" (defArgs s__law_e_is_pair) (defBody s__law_e_is_pair) (defScope s__law_e_is_pair) .none kV__law_e_is_pair dc__law_e_is_pair pm__law_e_is_pair an__law_e_is_pair cd__law_e_is_pair ct__law_e_is_pair), sl__law_e_is_pair⟩)
    (c__law_e_is_pair : PySem.W.codeIn K cd__law_e_is_pair "_law_e_is_pair" = true)
    (k__law_e_is_pair : PySem.W.keepIn K (.ref f__law_e_is_pair) = true)
    (a__law_due : PySem.W.nsIn K mainGlobals "_law_due" = some (some (.ref f__law_due)))
    (l__law_due : K.lookup f__law_due = some ⟨oc__law_due, od__law_due, .func (PySem.W.fnOf "_law_due" "_law_due" (defArgs s__law_due) (defBody s__law_due) (defScope s__law_due) .none kV__law_due dc__law_due pm__law_due an__law_due cd__law_due ct__law_due), sl__law_due⟩)
    (c__law_due : PySem.W.codeIn K cd__law_due "_law_due" = true)
    (k__law_due : PySem.W.keepIn K (.ref f__law_due) = true)
    (a__law_some_pair : PySem.W.nsIn K mainGlobals "_law_some_pair" = some (some (.ref f__law_some_pair)))
    (l__law_some_pair : K.lookup f__law_some_pair = some ⟨oc__law_some_pair, od__law_some_pair, .func (PySem.W.fnOf "_law_some_pair" "_law_some_pair" (defArgs s__law_some_pair) (defBody s__law_some_pair) (defScope s__law_some_pair) .none kV__law_some_pair dc__law_some_pair pm__law_some_pair an__law_some_pair cd__law_some_pair ct__law_some_pair), sl__law_some_pair⟩)
    (c__law_some_pair : PySem.W.codeIn K cd__law_some_pair "_law_some_pair" = true)
    (k__law_some_pair : PySem.W.keepIn K (.ref f__law_some_pair) = true)
    (a_law : PySem.W.nsIn K mainGlobals "law" = some (some (.ref f_law)))
    (l_law : K.lookup f_law = some ⟨oc_law, od_law, .func (PySem.W.fnOf "law" "law" (defArgs s_law) (defBody s_law) (defScope s_law) .none kV_law dc_law pm_law an_law cd_law ct_law), sl_law⟩)
    (c_law : PySem.W.codeIn K cd_law "law" = true)
    (k_law : PySem.W.keepIn K (.ref f_law) = true)
    (pg_Pairing : PySem.W.plainGet K C_Pairing Str.empty = true)
    (hd_Pairing : PySem.W.hasDictIn K C_Pairing = true)
    (po_Pairing : PySem.W.plainOver K C_Pairing = true)
    (sa_Pairing : PySem.W.findIn K (.ref C_Pairing) "__setattr__" = some (some (.builtin "object.__setattr__")))
    (ha_Pairing : PySem.W.findIn K (.ref C_Pairing) "__class__" = some (some (.builtin "object.__class__")))
    (hm_Pairing : PySem.W.mroIn K C_Pairing (.type "object") = some true)
    (mk_Pairing : PySem.W.makesIn K C_Pairing = true)
    (kc_Pairing : PySem.W.keepIn K (.ref C_Pairing) = true)
    (ic_Pairing : PySem.W.isClsIn K C_Pairing = true)
    (hs_Pairing : PySem.W.subIn K (.ref C_Pairing) (.ref C_Pairing) = some true)
    (tc_Pairing : PySem.W.typeIn K (.ref C_Pairing) = some (.type "type"))
    (ne_Pairing : PySem.W.findIn K (.ref C_Pairing) "__ne__" = some (some (.builtin "object.__ne__")))
    (n_Pairing_rows : PySem.W.findIn K (.ref C_Pairing) "rows" = some none)
    (n_Pairing_many : PySem.W.findIn K (.ref C_Pairing) "many" = some none)
    (n_Pairing_kinds : PySem.W.findIn K (.ref C_Pairing) "kinds" = some none)
    (t_Pairing_NoneType : PySem.W.subIn K (.ref C_Pairing) (.type "NoneType") = some false)
    (t_Pairing_bool : PySem.W.subIn K (.ref C_Pairing) (.type "bool") = some false)
    (t_Pairing_int : PySem.W.subIn K (.ref C_Pairing) (.type "int") = some false)
    (t_Pairing_str : PySem.W.subIn K (.ref C_Pairing) (.type "str") = some false)
    (t_Pairing_list : PySem.W.subIn K (.ref C_Pairing) (.type "list") = some false)
    (t_Pairing_tuple : PySem.W.subIn K (.ref C_Pairing) (.type "tuple") = some false)
    (t_Pairing_dict : PySem.W.subIn K (.ref C_Pairing) (.type "dict") = some false)
    (s_Pairing_Strong : PySem.W.subIn K (.ref C_Pairing) (.ref C_Strong) = some false)
    (s_Pairing_NotStrong : PySem.W.subIn K (.ref C_Pairing) (.ref C_NotStrong) = some false)
    (pg_Strong : PySem.W.plainGet K C_Strong Str.empty = true)
    (hd_Strong : PySem.W.hasDictIn K C_Strong = true)
    (po_Strong : PySem.W.plainOver K C_Strong = true)
    (sa_Strong : PySem.W.findIn K (.ref C_Strong) "__setattr__" = some (some (.builtin "object.__setattr__")))
    (ha_Strong : PySem.W.findIn K (.ref C_Strong) "__class__" = some (some (.builtin "object.__class__")))
    (hm_Strong : PySem.W.mroIn K C_Strong (.type "object") = some true)
    (mk_Strong : PySem.W.makesIn K C_Strong = true)
    (kc_Strong : PySem.W.keepIn K (.ref C_Strong) = true)
    (ic_Strong : PySem.W.isClsIn K C_Strong = true)
    (hs_Strong : PySem.W.subIn K (.ref C_Strong) (.ref C_Strong) = some true)
    (tc_Strong : PySem.W.typeIn K (.ref C_Strong) = some (.type "type"))
    (ne_Strong : PySem.W.findIn K (.ref C_Strong) "__ne__" = some (some (.builtin "object.__ne__")))
    (n_Strong_k : PySem.W.findIn K (.ref C_Strong) "k" = some none)
    (n_Strong_l : PySem.W.findIn K (.ref C_Strong) "l" = some none)
    (n_Strong_m : PySem.W.findIn K (.ref C_Strong) "m" = some none)
    (t_Strong_NoneType : PySem.W.subIn K (.ref C_Strong) (.type "NoneType") = some false)
    (t_Strong_bool : PySem.W.subIn K (.ref C_Strong) (.type "bool") = some false)
    (t_Strong_int : PySem.W.subIn K (.ref C_Strong) (.type "int") = some false)
    (t_Strong_str : PySem.W.subIn K (.ref C_Strong) (.type "str") = some false)
    (t_Strong_list : PySem.W.subIn K (.ref C_Strong) (.type "list") = some false)
    (t_Strong_tuple : PySem.W.subIn K (.ref C_Strong) (.type "tuple") = some false)
    (t_Strong_dict : PySem.W.subIn K (.ref C_Strong) (.type "dict") = some false)
    (s_Strong_Pairing : PySem.W.subIn K (.ref C_Strong) (.ref C_Pairing) = some false)
    (s_Strong_NotStrong : PySem.W.subIn K (.ref C_Strong) (.ref C_NotStrong) = some false)
    (pg_NotStrong : PySem.W.plainGet K C_NotStrong Str.empty = true)
    (hd_NotStrong : PySem.W.hasDictIn K C_NotStrong = true)
    (po_NotStrong : PySem.W.plainOver K C_NotStrong = true)
    (sa_NotStrong : PySem.W.findIn K (.ref C_NotStrong) "__setattr__" = some (some (.builtin "object.__setattr__")))
    (ha_NotStrong : PySem.W.findIn K (.ref C_NotStrong) "__class__" = some (some (.builtin "object.__class__")))
    (hm_NotStrong : PySem.W.mroIn K C_NotStrong (.type "object") = some true)
    (mk_NotStrong : PySem.W.makesIn K C_NotStrong = true)
    (kc_NotStrong : PySem.W.keepIn K (.ref C_NotStrong) = true)
    (ic_NotStrong : PySem.W.isClsIn K C_NotStrong = true)
    (hs_NotStrong : PySem.W.subIn K (.ref C_NotStrong) (.ref C_NotStrong) = some true)
    (tc_NotStrong : PySem.W.typeIn K (.ref C_NotStrong) = some (.type "type"))
    (ne_NotStrong : PySem.W.findIn K (.ref C_NotStrong) "__ne__" = some (some (.builtin "object.__ne__")))
    (n_NotStrong_one : PySem.W.findIn K (.ref C_NotStrong) "one" = some none)
    (n_NotStrong_other : PySem.W.findIn K (.ref C_NotStrong) "other" = some none)
    (t_NotStrong_NoneType : PySem.W.subIn K (.ref C_NotStrong) (.type "NoneType") = some false)
    (t_NotStrong_bool : PySem.W.subIn K (.ref C_NotStrong) (.type "bool") = some false)
    (t_NotStrong_int : PySem.W.subIn K (.ref C_NotStrong) (.type "int") = some false)
    (t_NotStrong_str : PySem.W.subIn K (.ref C_NotStrong) (.type "str") = some false)
    (t_NotStrong_list : PySem.W.subIn K (.ref C_NotStrong) (.type "list") = some false)
    (t_NotStrong_tuple : PySem.W.subIn K (.ref C_NotStrong) (.type "tuple") = some false)
    (t_NotStrong_dict : PySem.W.subIn K (.ref C_NotStrong) (.type "dict") = some false)
    (s_NotStrong_Pairing : PySem.W.subIn K (.ref C_NotStrong) (.ref C_Pairing) = some false)
    (s_NotStrong_Strong : PySem.W.subIn K (.ref C_NotStrong) (.ref C_Strong) = some false)
    (hn : PySem.W.specialIn K (.builtin "object.__class__") "__get__" = some (some (.builtin "getset_descriptor.__get__")))
    (htk : PySem.W.takesIn K (.builtin "object.__class__") = some true)
    (v_MOST_THINGS : PySem.W.nsIn K mainGlobals "MOST_THINGS" = some (some (.int 32 tk_MOST_THINGS)))
    (z_all : PySem.W.nsIn K mainGlobals "all" = some none)
    (z_any : PySem.W.nsIn K mainGlobals "any" = some none)
    (z_bool : PySem.W.nsIn K mainGlobals "bool" = some none)
    (z_enumerate : PySem.W.nsIn K mainGlobals "enumerate" = some none)
    (z_int : PySem.W.nsIn K mainGlobals "int" = some none)
    (z_isinstance : PySem.W.nsIn K mainGlobals "isinstance" = some none)
    (z_len : PySem.W.nsIn K mainGlobals "len" = some none)
    (z_list : PySem.W.nsIn K mainGlobals "list" = some none)
    (z_max : PySem.W.nsIn K mainGlobals "max" = some none)
    (z_range : PySem.W.nsIn K mainGlobals "range" = some none)
    (z_set : PySem.W.nsIn K mainGlobals "set" = some none)
    (z_sorted : PySem.W.nsIn K mainGlobals "sorted" = some none)
    (z_sum : PySem.W.nsIn K mainGlobals "sum" = some none)
    (z_tuple : PySem.W.nsIn K mainGlobals "tuple" = some none)
    (z_zip : PySem.W.nsIn K mainGlobals "zip" = some none)
    (plain : ∀ π : Pen, π.new → ∃ π', b_law (.un :: .sh .pen :: List.replicate 11 .un) π = some (.ret (.bl true), π')) :
    ∃ fd : FuncData, (∀ (s : Shared) (v : Value), BindsTo s fd ⟨[v], []⟩ [("script", v)]) ∧ ∀ base : Heap, K.In base → base.Ns mainGlobals mg → FnOk l.prog w K mg base CX0 9 fa fd ["script"] (spLaw K) := by
  have e := hfa.symm.trans (PySem.W.mg_of X G a_law)
  cases e
  have u_Pairing_Strong : C_Pairing ≠ C_Strong := fun e => by have q := s_Pairing_Strong; rw [e, hs_Strong] at q; cases q
  have u_Pairing_NotStrong : C_Pairing ≠ C_NotStrong := fun e => by have q := s_Pairing_NotStrong; rw [e, hs_NotStrong] at q; cases q
  have u_Strong_NotStrong : C_Strong ≠ C_NotStrong := fun e => by have q := s_Strong_NotStrong; rw [e, hs_NotStrong] at q; cases q
  let A : Ad := ⟨C_Pairing, C_Strong, C_NotStrong, f_is_integer, f_is_row, f_kept, f_are_rows, f_used, f_Pairing_init, f_Pairing_eq, f_is_thing, f_is_tie, f_numbered, f_of_web, f_all_words, f_Strong_init, f_Strong_eq, f_NotStrong_init, f_NotStrong_eq, f_tie_rows, f_both_tied, f_pair_sort, f_settled_strong, f_is_pair_of_things, f_strong_fault, f__law_pen, f__law_draw, f__law_pick, f__law_shuffled, f__law_e_lots, f__law_e_words, f__law_e_apart, f__law_e_missing, f__law_e_pairs, f__law_e_some_web, f__law_e_tied, f__law_e_both, f__law_e_strong, f__law_e_is_pair, f__law_due, f__law_some_pair, fa⟩
  have T : Txt K mg A := {
    ck := ⟨(fun c h => match c, h with | 0, _ => ⟨pg_Pairing, hd_Pairing, po_Pairing, sa_Pairing⟩ | 1, _ => ⟨pg_Strong, hd_Strong, po_Strong, sa_Strong⟩ | 2, _ => ⟨pg_NotStrong, hd_NotStrong, po_NotStrong, sa_NotStrong⟩ | n + 3, h => absurd h (by omega)),
      (fun c h => match c, h with | 0, _ => ha_Pairing | 1, _ => ha_Strong | 2, _ => ha_NotStrong | n + 3, h => absurd h (by omega)), hn, htk, (fun c h => match c, h with | 0, _ => hm_Pairing | 1, _ => hm_Strong | 2, _ => hm_NotStrong | n + 3, h => absurd h (by omega)),
      (fun c c' h h' => match c, c', h, h' with | 0, 0, _, _ => kit_same | 0, 1, _, _ => kit_ne (ref_ne (u_Pairing_Strong)) ic_Strong tc_Strong s_Pairing_Strong | 0, 2, _, _ => kit_ne (ref_ne (u_Pairing_NotStrong)) ic_NotStrong tc_NotStrong s_Pairing_NotStrong | 1, 0, _, _ => kit_ne (ref_ne (Ne.symm u_Pairing_Strong)) ic_Pairing tc_Pairing s_Strong_Pairing | 1, 1, _, _ => kit_same | 1, 2, _, _ => kit_ne (ref_ne (u_Strong_NotStrong)) ic_NotStrong tc_NotStrong s_Strong_NotStrong | 2, 0, _, _ => kit_ne (ref_ne (Ne.symm u_Pairing_NotStrong)) ic_Pairing tc_Pairing s_NotStrong_Pairing | 2, 1, _, _ => kit_ne (ref_ne (Ne.symm u_Strong_NotStrong)) ic_Strong tc_Strong s_NotStrong_Strong | 2, 2, _, _ => kit_same | n + 3, _, h, _ => absurd h (by omega) | _, n + 3, _, h => absurd h (by omega)),
      (fun a c ha h => match c, h with | 0, _ => kit_ne rfl ic_Pairing tc_Pairing (sub_ty a ha) | 1, _ => kit_ne rfl ic_Strong tc_Strong (sub_ty a ha) | 2, _ => kit_ne rfl ic_NotStrong tc_NotStrong (sub_ty a ha) | n + 3, h => absurd h (by omega)),
      (fun a c ha h => match c, h with | 0, _ => kit_tf (bMeta a ha) (by simp only [bNames, List.mem_cons, List.not_mem_nil, or_false] at ha; rcases ha with rfl | rfl | rfl | rfl | rfl | rfl | rfl <;> assumption) | 1, _ => kit_tf (bMeta a ha) (by simp only [bNames, List.mem_cons, List.not_mem_nil, or_false] at ha; rcases ha with rfl | rfl | rfl | rfl | rfl | rfl | rfl <;> assumption) | 2, _ => kit_tf (bMeta a ha) (by simp only [bNames, List.mem_cons, List.not_mem_nil, or_false] at ha; rcases ha with rfl | rfl | rfl | rfl | rfl | rfl | rfl <;> assumption) | n + 3, h => absurd h (by omega))⟩
    hok := fun c f h => match c, h with
      | 0, h => by
        simp only [okc, List.contains_iff_mem, List.mem_cons, List.not_mem_nil, or_false] at h
        exact ⟨⟨pg_Pairing, hd_Pairing, po_Pairing, sa_Pairing⟩, by rcases h with rfl | rfl | rfl <;> assumption⟩
      | 1, h => by
        simp only [okc, List.contains_iff_mem, List.mem_cons, List.not_mem_nil, or_false] at h
        exact ⟨⟨pg_Strong, hd_Strong, po_Strong, sa_Strong⟩, by rcases h with rfl | rfl | rfl <;> assumption⟩
      | 2, h => by
        simp only [okc, List.contains_iff_mem, List.mem_cons, List.not_mem_nil, or_false] at h
        exact ⟨⟨pg_NotStrong, hd_NotStrong, po_NotStrong, sa_NotStrong⟩, by rcases h with rfl | rfl <;> assumption⟩
      | n + 3, h => nomatch h
    nf := (fun c c' h h' => match c, c', h, h' with | 0, 0, _, _ => by show (_ || _) = true; simp | 0, 1, _, _ => by show (_ || (PySem.W.subIn K (.ref C_Strong) (.ref C_Pairing) == some false)) = true; rw [s_Strong_Pairing]; simp | 0, 2, _, _ => by show (_ || (PySem.W.subIn K (.ref C_NotStrong) (.ref C_Pairing) == some false)) = true; rw [s_NotStrong_Pairing]; simp | 1, 0, _, _ => by show (_ || (PySem.W.subIn K (.ref C_Pairing) (.ref C_Strong) == some false)) = true; rw [s_Pairing_Strong]; simp | 1, 1, _, _ => by show (_ || _) = true; simp | 1, 2, _, _ => by show (_ || (PySem.W.subIn K (.ref C_NotStrong) (.ref C_Strong) == some false)) = true; rw [s_NotStrong_Strong]; simp | 2, 0, _, _ => by show (_ || (PySem.W.subIn K (.ref C_Pairing) (.ref C_NotStrong) == some false)) = true; rw [s_Pairing_NotStrong]; simp | 2, 1, _, _ => by show (_ || (PySem.W.subIn K (.ref C_Strong) (.ref C_NotStrong) == some false)) = true; rw [s_Strong_NotStrong]; simp | 2, 2, _, _ => by show (_ || _) = true; simp | n + 3, _, h, _ => absurd h (by omega) | _, n + 3, _, h => absurd h (by omega))
    m_Pairing := PySem.W.mg_of X G a_Pairing
    mk_Pairing := ⟨mk_Pairing, a_Pairing_init, i_Pairing_init, kc_Pairing⟩
    oq_Pairing := ⟨a_Pairing_eq, i_Pairing_eq, ne_Pairing, hm_Pairing⟩
    m_Strong := PySem.W.mg_of X G a_Strong
    mk_Strong := ⟨mk_Strong, a_Strong_init, i_Strong_init, kc_Strong⟩
    oq_Strong := ⟨a_Strong_eq, i_Strong_eq, ne_Strong, hm_Strong⟩
    m_NotStrong := PySem.W.mg_of X G a_NotStrong
    mk_NotStrong := ⟨mk_NotStrong, a_NotStrong_init, i_NotStrong_init, kc_NotStrong⟩
    oq_NotStrong := ⟨a_NotStrong_eq, i_NotStrong_eq, ne_NotStrong, hm_NotStrong⟩
    g_is_integer := PySem.W.mg_of X G a_is_integer
    k_is_integer := k_is_integer
    g_is_row := PySem.W.mg_of X G a_is_row
    k_is_row := k_is_row
    g_kept := PySem.W.mg_of X G a_kept
    k_kept := k_kept
    g_are_rows := PySem.W.mg_of X G a_are_rows
    k_are_rows := k_are_rows
    g_used := PySem.W.mg_of X G a_used
    k_used := k_used
    g_is_thing := PySem.W.mg_of X G a_is_thing
    k_is_thing := k_is_thing
    g_is_tie := PySem.W.mg_of X G a_is_tie
    k_is_tie := k_is_tie
    g_numbered := PySem.W.mg_of X G a_numbered
    k_numbered := k_numbered
    g_of_web := PySem.W.mg_of X G a_of_web
    k_of_web := k_of_web
    g_all_words := PySem.W.mg_of X G a_all_words
    k_all_words := k_all_words
    g_tie_rows := PySem.W.mg_of X G a_tie_rows
    k_tie_rows := k_tie_rows
    g_both_tied := PySem.W.mg_of X G a_both_tied
    k_both_tied := k_both_tied
    g_pair_sort := PySem.W.mg_of X G a_pair_sort
    k_pair_sort := k_pair_sort
    g_settled_strong := PySem.W.mg_of X G a_settled_strong
    k_settled_strong := k_settled_strong
    g_is_pair_of_things := PySem.W.mg_of X G a_is_pair_of_things
    k_is_pair_of_things := k_is_pair_of_things
    g_strong_fault := PySem.W.mg_of X G a_strong_fault
    k_strong_fault := k_strong_fault
    g__law_pen := PySem.W.mg_of X G a__law_pen
    k__law_pen := k__law_pen
    g__law_draw := PySem.W.mg_of X G a__law_draw
    k__law_draw := k__law_draw
    g__law_pick := PySem.W.mg_of X G a__law_pick
    k__law_pick := k__law_pick
    g__law_shuffled := PySem.W.mg_of X G a__law_shuffled
    k__law_shuffled := k__law_shuffled
    g__law_e_lots := PySem.W.mg_of X G a__law_e_lots
    k__law_e_lots := k__law_e_lots
    g__law_e_words := PySem.W.mg_of X G a__law_e_words
    k__law_e_words := k__law_e_words
    g__law_e_apart := PySem.W.mg_of X G a__law_e_apart
    k__law_e_apart := k__law_e_apart
    g__law_e_missing := PySem.W.mg_of X G a__law_e_missing
    k__law_e_missing := k__law_e_missing
    g__law_e_pairs := PySem.W.mg_of X G a__law_e_pairs
    k__law_e_pairs := k__law_e_pairs
    g__law_e_some_web := PySem.W.mg_of X G a__law_e_some_web
    k__law_e_some_web := k__law_e_some_web
    g__law_e_tied := PySem.W.mg_of X G a__law_e_tied
    k__law_e_tied := k__law_e_tied
    g__law_e_both := PySem.W.mg_of X G a__law_e_both
    k__law_e_both := k__law_e_both
    g__law_e_strong := PySem.W.mg_of X G a__law_e_strong
    k__law_e_strong := k__law_e_strong
    g__law_e_is_pair := PySem.W.mg_of X G a__law_e_is_pair
    k__law_e_is_pair := k__law_e_is_pair
    g__law_due := PySem.W.mg_of X G a__law_due
    k__law_due := k__law_due
    g__law_some_pair := PySem.W.mg_of X G a__law_some_pair
    k__law_some_pair := k__law_some_pair
    g_law := PySem.W.mg_of X G a_law
    k_law := k_law
    g_MOST_THINGS := ⟨_, PySem.W.mg_of X G v_MOST_THINGS⟩
    b_all := PySem.W.mg_none_of X G z_all
    b_any := PySem.W.mg_none_of X G z_any
    b_bool := PySem.W.mg_none_of X G z_bool
    b_enumerate := PySem.W.mg_none_of X G z_enumerate
    b_int := PySem.W.mg_none_of X G z_int
    b_isinstance := PySem.W.mg_none_of X G z_isinstance
    b_len := PySem.W.mg_none_of X G z_len
    b_list := PySem.W.mg_none_of X G z_list
    b_max := PySem.W.mg_none_of X G z_max
    b_range := PySem.W.mg_none_of X G z_range
    b_set := PySem.W.mg_none_of X G z_set
    b_sorted := PySem.W.mg_none_of X G z_sorted
    b_sum := PySem.W.mg_none_of X G z_sum
    b_tuple := PySem.W.mg_none_of X G z_tuple
    b_zip := PySem.W.mg_none_of X G z_zip
  }
  have F_is_integer := fun_mk (st := s_is_integer) l_is_integer c_is_integer k_is_integer
  have B_is_integer := F_is_integer.binds (ps := ["value"]) fun _ _ _ _ _ _ us hl => match us, hl with | [_], _ => rfl
  have F_is_row := fun_mk (st := s_is_row) l_is_row c_is_row k_is_row
  have B_is_row := F_is_row.binds (ps := ["value"]) fun _ _ _ _ _ _ us hl => match us, hl with | [_], _ => rfl
  have F_kept := fun_mk (st := s_kept) l_kept c_kept k_kept
  have B_kept := F_kept.binds (ps := ["value"]) fun _ _ _ _ _ _ us hl => match us, hl with | [_], _ => rfl
  have F_are_rows := fun_mk (st := s_are_rows) l_are_rows c_are_rows k_are_rows
  have B_are_rows := F_are_rows.binds (ps := ["rows"]) fun _ _ _ _ _ _ us hl => match us, hl with | [_], _ => rfl
  have F_used := fun_mk (st := s_used) l_used c_used k_used
  have B_used := F_used.binds (ps := ["rows"]) fun _ _ _ _ _ _ us hl => match us, hl with | [_], _ => rfl
  have F_Pairing_init := fun_mk (st := s_Pairing_init) l_Pairing_init c_Pairing_init k_Pairing_init
  have B_Pairing_init := F_Pairing_init.binds (ps := ["self", "rows"]) fun _ _ _ _ _ _ us hl => match us, hl with | [_, _], _ => rfl
  have F_Pairing_eq := fun_mk (st := s_Pairing_eq) l_Pairing_eq c_Pairing_eq k_Pairing_eq
  have B_Pairing_eq := F_Pairing_eq.binds (ps := ["self", "other"]) fun _ _ _ _ _ _ us hl => match us, hl with | [_, _], _ => rfl
  have F_is_thing := fun_mk (st := s_is_thing) l_is_thing c_is_thing k_is_thing
  have B_is_thing := F_is_thing.binds (ps := ["many", "value"]) fun _ _ _ _ _ _ us hl => match us, hl with | [_, _], _ => rfl
  have F_is_tie := fun_mk (st := s_is_tie) l_is_tie c_is_tie k_is_tie
  have B_is_tie := F_is_tie.binds (ps := ["many", "value"]) fun _ _ _ _ _ _ us hl => match us, hl with | [_, _], _ => rfl
  have F_numbered := fun_mk (st := s_numbered) l_numbered c_numbered k_numbered
  have B_numbered := F_numbered.binds (ps := ["rows"]) fun _ _ _ _ _ _ us hl => match us, hl with | [_], _ => rfl
  have F_of_web := fun_mk (st := s_of_web) l_of_web c_of_web k_of_web
  have B_of_web := F_of_web.binds (ps := ["n", "ties"]) fun _ _ _ _ _ _ us hl => match us, hl with | [_, _], _ => rfl
  have F_all_words := fun_mk (st := s_all_words) l_all_words c_all_words k_all_words
  have B_all_words := F_all_words.binds (ps := ["length", "letters"]) fun _ _ _ _ _ _ us hl => match us, hl with | [_, _], _ => rfl
  have F_Strong_init := fun_mk (st := s_Strong_init) l_Strong_init c_Strong_init k_Strong_init
  have B_Strong_init := F_Strong_init.binds (ps := ["self", "k", "l", "m"]) fun _ _ _ _ _ _ us hl => match us, hl with | [_, _, _, _], _ => rfl
  have F_Strong_eq := fun_mk (st := s_Strong_eq) l_Strong_eq c_Strong_eq k_Strong_eq
  have B_Strong_eq := F_Strong_eq.binds (ps := ["self", "other"]) fun _ _ _ _ _ _ us hl => match us, hl with | [_, _], _ => rfl
  have F_NotStrong_init := fun_mk (st := s_NotStrong_init) l_NotStrong_init c_NotStrong_init k_NotStrong_init
  have B_NotStrong_init := F_NotStrong_init.binds (ps := ["self", "one", "other"]) fun _ _ _ _ _ _ us hl => match us, hl with | [_, _, _], _ => rfl
  have F_NotStrong_eq := fun_mk (st := s_NotStrong_eq) l_NotStrong_eq c_NotStrong_eq k_NotStrong_eq
  have B_NotStrong_eq := F_NotStrong_eq.binds (ps := ["self", "other"]) fun _ _ _ _ _ _ us hl => match us, hl with | [_, _], _ => rfl
  have F_tie_rows := fun_mk (st := s_tie_rows) l_tie_rows c_tie_rows k_tie_rows
  have B_tie_rows := F_tie_rows.binds (ps := ["n", "ties"]) fun _ _ _ _ _ _ us hl => match us, hl with | [_, _], _ => rfl
  have F_both_tied := fun_mk (st := s_both_tied) l_both_tied c_both_tied k_both_tied
  have B_both_tied := F_both_tied.binds (ps := ["rows", "pair"]) fun _ _ _ _ _ _ us hl => match us, hl with | [_, _], _ => rfl
  have F_pair_sort := fun_mk (st := s_pair_sort) l_pair_sort c_pair_sort k_pair_sort
  have B_pair_sort := F_pair_sort.binds (ps := ["rows", "pair"]) fun _ _ _ _ _ _ us hl => match us, hl with | [_, _], _ => rfl
  have F_settled_strong := fun_mk (st := s_settled_strong) l_settled_strong c_settled_strong k_settled_strong
  have B_settled_strong := F_settled_strong.binds (ps := ["rows"]) fun _ _ _ _ _ _ us hl => match us, hl with | [_], _ => rfl
  have F_is_pair_of_things := fun_mk (st := s_is_pair_of_things) l_is_pair_of_things c_is_pair_of_things k_is_pair_of_things
  have B_is_pair_of_things := F_is_pair_of_things.binds (ps := ["n", "value"]) fun _ _ _ _ _ _ us hl => match us, hl with | [_, _], _ => rfl
  have F_strong_fault := fun_mk (st := s_strong_fault) l_strong_fault c_strong_fault k_strong_fault
  have B_strong_fault := F_strong_fault.binds (ps := ["n", "ties", "answer"]) fun _ _ _ _ _ _ us hl => match us, hl with | [_, _, _], _ => rfl
  have F__law_pen := fun_mk (st := s__law_pen) l__law_pen c__law_pen k__law_pen
  have B__law_pen := F__law_pen.binds (ps := ["script"]) fun _ _ _ _ _ _ us hl => match us, hl with | [_], _ => rfl
  have F__law_draw := fun_mk (st := s__law_draw) l__law_draw c__law_draw k__law_draw
  have B__law_draw := F__law_draw.binds (ps := ["pen", "many"]) fun _ _ _ _ _ _ us hl => match us, hl with | [_, _], _ => rfl
  have F__law_pick := fun_mk (st := s__law_pick) l__law_pick c__law_pick k__law_pick
  have B__law_pick := F__law_pick.binds (ps := ["pen", "some"]) fun _ _ _ _ _ _ us hl => match us, hl with | [_, _], _ => rfl
  have F__law_shuffled := fun_mk (st := s__law_shuffled) l__law_shuffled c__law_shuffled k__law_shuffled
  have B__law_shuffled := F__law_shuffled.binds (ps := ["pen", "some"]) fun _ _ _ _ _ _ us hl => match us, hl with | [_, _], _ => rfl
  have F__law_e_lots := fun_mk (st := s__law_e_lots) l__law_e_lots c__law_e_lots k__law_e_lots
  have B__law_e_lots := F__law_e_lots.binds (ps := ["many", "size"]) fun _ _ _ _ _ _ us hl => match us, hl with | [_, _], _ => rfl
  have F__law_e_words := fun_mk (st := s__law_e_words) l__law_e_words c__law_e_words k__law_e_words
  have B__law_e_words := F__law_e_words.binds (ps := ["length", "letters"]) fun _ _ _ _ _ _ us hl => match us, hl with | [_, _], _ => rfl
  have F__law_e_apart := fun_mk (st := s__law_e_apart) l__law_e_apart c__law_e_apart k__law_e_apart
  have B__law_e_apart := F__law_e_apart.binds (ps := ["one", "other"]) fun _ _ _ _ _ _ us hl => match us, hl with | [_, _], _ => rfl
  have F__law_e_missing := fun_mk (st := s__law_e_missing) l__law_e_missing c__law_e_missing k__law_e_missing
  have B__law_e_missing := F__law_e_missing.binds (ps := ["one", "other"]) fun _ _ _ _ _ _ us hl => match us, hl with | [_, _], _ => rfl
  have F__law_e_pairs := fun_mk (st := s__law_e_pairs) l__law_e_pairs c__law_e_pairs k__law_e_pairs
  have B__law_e_pairs := F__law_e_pairs.binds (ps := ["n"]) fun _ _ _ _ _ _ us hl => match us, hl with | [_], _ => rfl
  have F__law_e_some_web := fun_mk (st := s__law_e_some_web) l__law_e_some_web c__law_e_some_web k__law_e_some_web
  have B__law_e_some_web := F__law_e_some_web.binds (ps := ["pen"]) fun _ _ _ _ _ _ us hl => match us, hl with | [_], _ => rfl
  have F__law_e_tied := fun_mk (st := s__law_e_tied) l__law_e_tied c__law_e_tied k__law_e_tied
  have B__law_e_tied := F__law_e_tied.binds (ps := ["n", "ties"]) fun _ _ _ _ _ _ us hl => match us, hl with | [_, _], _ => rfl
  have F__law_e_both := fun_mk (st := s__law_e_both) l__law_e_both c__law_e_both k__law_e_both
  have B__law_e_both := F__law_e_both.binds (ps := ["rows", "x", "y"]) fun _ _ _ _ _ _ us hl => match us, hl with | [_, _, _], _ => rfl
  have F__law_e_strong := fun_mk (st := s__law_e_strong) l__law_e_strong c__law_e_strong k__law_e_strong
  have B__law_e_strong := F__law_e_strong.binds (ps := ["n", "ties"]) fun _ _ _ _ _ _ us hl => match us, hl with | [_, _], _ => rfl
  have F__law_e_is_pair := fun_mk (st := s__law_e_is_pair) l__law_e_is_pair c__law_e_is_pair k__law_e_is_pair
  have B__law_e_is_pair := F__law_e_is_pair.binds (ps := ["n", "value"]) fun _ _ _ _ _ _ us hl => match us, hl with | [_, _], _ => rfl
  have F__law_due := fun_mk (st := s__law_due) l__law_due c__law_due k__law_due
  have B__law_due := F__law_due.binds (ps := ["n", "ties", "answer"]) fun _ _ _ _ _ _ us hl => match us, hl with | [_, _, _], _ => rfl
  have F__law_some_pair := fun_mk (st := s__law_some_pair) l__law_some_pair c__law_some_pair k__law_some_pair
  have B__law_some_pair := F__law_some_pair.binds (ps := ["pen", "n"]) fun _ _ _ _ _ _ us hl => match us, hl with | [_, _], _ => rfl
  have F_law := fun_mk (st := s_law) l_law c_law k_law
  refine ⟨PySem.W.fnOf "law" "law" (defArgs s_law) (defBody s_law) (defScope s_law) .none kV_law dc_law pm_law an_law cd_law ct_law, fun s v => .of_eq rfl, fun base _ _ => ?_⟩
  have G_is_integer := ok_is_integer (P := l.prog) (w := w) (base := base) (A := A) T F_is_integer 
  have G_is_row := ok_is_row (P := l.prog) (w := w) (base := base) (A := A) T F_is_row 
  have G_kept := ok_kept (P := l.prog) (w := w) (base := base) (A := A) T F_kept G_is_row B_is_row B_kept 3
  have G_are_rows := ok_are_rows (P := l.prog) (w := w) (base := base) (A := A) T F_are_rows G_is_row B_is_row G_is_integer B_is_integer
  have G_used := ok_used (P := l.prog) (w := w) (base := base) (A := A) T F_used 
  have G_Pairing_init := ok_Pairing_init (P := l.prog) (w := w) (base := base) (A := A) T F_Pairing_init G_used B_used G_are_rows B_are_rows
  have G_Pairing_eq := ok_Pairing_eq (P := l.prog) (w := w) (base := base) (A := A) T F_Pairing_eq 
  have G_is_thing := ok_is_thing (P := l.prog) (w := w) (base := base) (A := A) T F_is_thing G_is_integer B_is_integer
  have G_is_tie := ok_is_tie (P := l.prog) (w := w) (base := base) (A := A) T F_is_tie G_is_thing B_is_thing
  have G_numbered := ok_numbered (P := l.prog) (w := w) (base := base) (A := A) T F_numbered G_used B_used G_Pairing_init B_Pairing_init
  have G_of_web := ok_of_web (P := l.prog) (w := w) (base := base) (A := A) T F_of_web G_numbered B_numbered G_is_row B_is_row G_is_integer B_is_integer G_is_tie B_is_tie
  have G_all_words := ok_all_words (P := l.prog) (w := w) (base := base) (A := A) T F_all_words 
  have G_Strong_init := ok_Strong_init (P := l.prog) (w := w) (base := base) (A := A) T F_Strong_init 
  have G_Strong_eq := ok_Strong_eq (P := l.prog) (w := w) (base := base) (A := A) T F_Strong_eq 
  have G_NotStrong_init := ok_NotStrong_init (P := l.prog) (w := w) (base := base) (A := A) T F_NotStrong_init G_kept B_kept
  have G_NotStrong_eq := ok_NotStrong_eq (P := l.prog) (w := w) (base := base) (A := A) T F_NotStrong_eq 
  have G_tie_rows := ok_tie_rows (P := l.prog) (w := w) (base := base) (A := A) T F_tie_rows G_of_web B_of_web
  have G_both_tied := ok_both_tied (P := l.prog) (w := w) (base := base) (A := A) T F_both_tied 
  have G_pair_sort := ok_pair_sort (P := l.prog) (w := w) (base := base) (A := A) T F_pair_sort 
  have G_settled_strong := ok_settled_strong (P := l.prog) (w := w) (base := base) (A := A) T F_settled_strong G_all_words B_all_words G_Strong_init B_Strong_init G_pair_sort B_pair_sort G_NotStrong_init B_NotStrong_init G_both_tied B_both_tied
  have G_is_pair_of_things := ok_is_pair_of_things (P := l.prog) (w := w) (base := base) (A := A) T F_is_pair_of_things G_is_thing B_is_thing
  have G_strong_fault := ok_strong_fault (P := l.prog) (w := w) (base := base) (A := A) T F_strong_fault G_tie_rows B_tie_rows G_settled_strong B_settled_strong G_is_pair_of_things B_is_pair_of_things G_pair_sort B_pair_sort G_both_tied B_both_tied G_Strong_eq B_Strong_eq
  have G__law_pen := ok__law_pen (P := l.prog) (w := w) (base := base) (A := A) T F__law_pen 
  have G__law_draw := ok__law_draw (P := l.prog) (w := w) (base := base) (A := A) T F__law_draw 
  have G__law_pick := ok__law_pick (P := l.prog) (w := w) (base := base) (A := A) T F__law_pick G__law_draw B__law_draw
  have G__law_shuffled := ok__law_shuffled (P := l.prog) (w := w) (base := base) (A := A) T F__law_shuffled G__law_draw B__law_draw
  have G__law_e_lots := ok__law_e_lots (P := l.prog) (w := w) (base := base) (A := A) T F__law_e_lots 
  have G__law_e_words := ok__law_e_words (P := l.prog) (w := w) (base := base) (A := A) T F__law_e_words 
  have G__law_e_apart := ok__law_e_apart (P := l.prog) (w := w) (base := base) (A := A) T F__law_e_apart 
  have G__law_e_missing := ok__law_e_missing (P := l.prog) (w := w) (base := base) (A := A) T F__law_e_missing 
  have G__law_e_pairs := ok__law_e_pairs (P := l.prog) (w := w) (base := base) (A := A) T F__law_e_pairs 
  have G__law_e_some_web := ok__law_e_some_web (P := l.prog) (w := w) (base := base) (A := A) T F__law_e_some_web G__law_draw B__law_draw G__law_e_lots B__law_e_lots G__law_shuffled B__law_shuffled G__law_pick B__law_pick G__law_e_words B__law_e_words G__law_e_pairs B__law_e_pairs G__law_e_missing B__law_e_missing G__law_e_apart B__law_e_apart
  have G__law_e_tied := ok__law_e_tied (P := l.prog) (w := w) (base := base) (A := A) T F__law_e_tied 
  have G__law_e_both := ok__law_e_both (P := l.prog) (w := w) (base := base) (A := A) T F__law_e_both 
  have G__law_e_strong := ok__law_e_strong (P := l.prog) (w := w) (base := base) (A := A) T F__law_e_strong G__law_e_tied B__law_e_tied G__law_e_both B__law_e_both
  have G__law_e_is_pair := ok__law_e_is_pair (P := l.prog) (w := w) (base := base) (A := A) T F__law_e_is_pair 
  have G__law_due := ok__law_due (P := l.prog) (w := w) (base := base) (A := A) T F__law_due G__law_e_tied B__law_e_tied G__law_e_is_pair B__law_e_is_pair G__law_e_both B__law_e_both
  have G__law_some_pair := ok__law_some_pair (P := l.prog) (w := w) (base := base) (A := A) T F__law_some_pair G__law_draw B__law_draw G__law_pick B__law_pick
  exact ok_law (P := l.prog) (w := w) (base := base) (A := A) T F_law G__law_pen B__law_pen G__law_e_some_web B__law_e_some_web G__law_e_strong B__law_e_strong G_Strong_eq B_Strong_eq G_NotStrong_eq B_NotStrong_eq G_strong_fault B_strong_fault G_Strong_init B_Strong_init G_NotStrong_init B_NotStrong_init G__law_some_pair B__law_some_pair G__law_due B__law_due G__law_draw B__law_draw G__law_pick B__law_pick plain
end
theorem walk {l : PySem.W.OpenLaw} {q : Program} {loose : List Str} {XP : (Str → Option Value) → Heap → Prop} {YP : World → Heap → Prop} {d : DefRec} {K : Params → PySem.W.Frag} (hn : l.most = some 63) (hdf : d.params.defaults = [])
    (hY : ∀ (w : World) (h : Heap), YP w h → (K w.params).In h)
    (F : ∀ (w : World) (mg : Str → Option Value) (fa : Addr) (h : Heap), (K w.params).In h → h.Ns mainGlobals mg → mg d.name = some (.ref fa) →
      ∃ fd : FuncData, (∀ (s : Shared) (u : Value), BindsTo s fd ⟨[u], []⟩ [("script", u)]) ∧ ∀ base : Heap, (K w.params).In base → base.Ns mainGlobals mg → FnOk l.prog w (K w.params) mg base CX0 9 fa fd ["script"] (spLaw (K w.params))) :
    PySem.W.WalkO q loose XP YP l.row.toRowW d [] (fun f vs => PySem.call f vs) :=
  L2.walk_of (n := 63) (k := 9) (x := "script") (CX := fun _ => CX0) (sp := fun w => spLaw (K w.params)) hn (by decide) hdf ⟨rfl, by decide, by decide⟩ hY F (fun _ _ a ns hl _ hS => ⟨a, ns, rfl, hS, hl, fun _ => rfl⟩) fun _ _ _ _ _ z => z
end Lk65
open PySem PySem.W PyProof.Rows in
set_option maxRecDepth 100000 in
set_option maxHeartbeats 0 in
theorem PySem.Challenge.cw_eventies_k65_whole_strongly_even_webs_ju_holds : PySem.Challenge.rw_eventies_k65_whole_strongly_even_webs_ju.Holds := by
  w_on; o_law; k_head; (case hw => w_witness2)
  k_fill
  refine Lk65.walk (l := PySem.Challenge.rw_eventies_k65_whole_strongly_even_webs_ju) rfl rfl (fun w h Y => PySem.W.kIn_of Y) ?F
  case F =>
    intro w mg fa h KX G hmg
    refine' Lk65.all_mk KX G hmg ?a_Pairing ?a_Strong ?a_NotStrong ?a_is_integer ?l_is_integer ?c_is_integer ?k_is_integer ?a_is_row ?l_is_row ?c_is_row ?k_is_row ?a_kept ?l_kept ?c_kept ?k_kept ?a_are_rows ?l_are_rows ?c_are_rows ?k_are_rows ?a_used ?l_used ?c_used ?k_used ?a_Pairing_init ?i_Pairing_init ?l_Pairing_init ?c_Pairing_init ?k_Pairing_init ?a_Pairing_eq ?i_Pairing_eq ?l_Pairing_eq ?c_Pairing_eq ?k_Pairing_eq ?a_is_thing ?l_is_thing ?c_is_thing ?k_is_thing ?a_is_tie ?l_is_tie ?c_is_tie ?k_is_tie ?a_numbered ?l_numbered ?c_numbered ?k_numbered ?a_of_web ?l_of_web ?c_of_web ?k_of_web ?a_all_words ?l_all_words ?c_all_words ?k_all_words ?a_Strong_init ?i_Strong_init ?l_Strong_init ?c_Strong_init ?k_Strong_init ?a_Strong_eq ?i_Strong_eq ?l_Strong_eq ?c_Strong_eq ?k_Strong_eq ?a_NotStrong_init ?i_NotStrong_init ?l_NotStrong_init ?c_NotStrong_init ?k_NotStrong_init ?a_NotStrong_eq ?i_NotStrong_eq ?l_NotStrong_eq ?c_NotStrong_eq ?k_NotStrong_eq ?a_tie_rows ?l_tie_rows ?c_tie_rows ?k_tie_rows ?a_both_tied ?l_both_tied ?c_both_tied ?k_both_tied ?a_pair_sort ?l_pair_sort ?c_pair_sort ?k_pair_sort ?a_settled_strong ?l_settled_strong ?c_settled_strong ?k_settled_strong ?a_is_pair_of_things ?l_is_pair_of_things ?c_is_pair_of_things ?k_is_pair_of_things ?a_strong_fault ?l_strong_fault ?c_strong_fault ?k_strong_fault ?a__law_pen ?l__law_pen ?c__law_pen ?k__law_pen ?a__law_draw ?l__law_draw ?c__law_draw ?k__law_draw ?a__law_pick ?l__law_pick ?c__law_pick ?k__law_pick ?a__law_shuffled ?l__law_shuffled ?c__law_shuffled ?k__law_shuffled ?a__law_e_lots ?l__law_e_lots ?c__law_e_lots ?k__law_e_lots ?a__law_e_words ?l__law_e_words ?c__law_e_words ?k__law_e_words ?a__law_e_apart ?l__law_e_apart ?c__law_e_apart ?k__law_e_apart ?a__law_e_missing ?l__law_e_missing ?c__law_e_missing ?k__law_e_missing ?a__law_e_pairs ?l__law_e_pairs ?c__law_e_pairs ?k__law_e_pairs ?a__law_e_some_web ?l__law_e_some_web ?c__law_e_some_web ?k__law_e_some_web ?a__law_e_tied ?l__law_e_tied ?c__law_e_tied ?k__law_e_tied ?a__law_e_both ?l__law_e_both ?c__law_e_both ?k__law_e_both ?a__law_e_strong ?l__law_e_strong ?c__law_e_strong ?k__law_e_strong ?a__law_e_is_pair ?l__law_e_is_pair ?c__law_e_is_pair ?k__law_e_is_pair ?a__law_due ?l__law_due ?c__law_due ?k__law_due ?a__law_some_pair ?l__law_some_pair ?c__law_some_pair ?k__law_some_pair ?a_law ?l_law ?c_law ?k_law ?pg_Pairing ?hd_Pairing ?po_Pairing ?sa_Pairing ?ha_Pairing ?hm_Pairing ?mk_Pairing ?kc_Pairing ?ic_Pairing ?hs_Pairing ?tc_Pairing ?ne_Pairing ?n_Pairing_rows ?n_Pairing_many ?n_Pairing_kinds ?t_Pairing_NoneType ?t_Pairing_bool ?t_Pairing_int ?t_Pairing_str ?t_Pairing_list ?t_Pairing_tuple ?t_Pairing_dict ?s_Pairing_Strong ?s_Pairing_NotStrong ?pg_Strong ?hd_Strong ?po_Strong ?sa_Strong ?ha_Strong ?hm_Strong ?mk_Strong ?kc_Strong ?ic_Strong ?hs_Strong ?tc_Strong ?ne_Strong ?n_Strong_k ?n_Strong_l ?n_Strong_m ?t_Strong_NoneType ?t_Strong_bool ?t_Strong_int ?t_Strong_str ?t_Strong_list ?t_Strong_tuple ?t_Strong_dict ?s_Strong_Pairing ?s_Strong_NotStrong ?pg_NotStrong ?hd_NotStrong ?po_NotStrong ?sa_NotStrong ?ha_NotStrong ?hm_NotStrong ?mk_NotStrong ?kc_NotStrong ?ic_NotStrong ?hs_NotStrong ?tc_NotStrong ?ne_NotStrong ?n_NotStrong_one ?n_NotStrong_other ?t_NotStrong_NoneType ?t_NotStrong_bool ?t_NotStrong_int ?t_NotStrong_str ?t_NotStrong_list ?t_NotStrong_tuple ?t_NotStrong_dict ?s_NotStrong_Pairing ?s_NotStrong_Strong ?hn ?htk ?v_MOST_THINGS ?z_all ?z_any ?z_bool ?z_enumerate ?z_int ?z_isinstance ?z_len ?z_list ?z_max ?z_range ?z_set ?z_sorted ?z_sum ?z_tuple ?z_zip Lk65.plain
    (case a_Pairing => k_is)
    (case a_Strong => k_is)
    (case a_NotStrong => k_is)
    (case a_is_integer => k_is)
    (case l_is_integer => k_is)
    (case c_is_integer => k_is)
    (case k_is_integer => k_is)
    (case a_is_row => k_is)
    (case l_is_row => k_is)
    (case c_is_row => k_is)
    (case k_is_row => k_is)
    (case a_kept => k_is)
    (case l_kept => k_is)
    (case c_kept => k_is)
    (case k_kept => k_is)
    (case a_are_rows => k_is)
    (case l_are_rows => k_is)
    (case c_are_rows => k_is)
    (case k_are_rows => k_is)
    (case a_used => k_is)
    (case l_used => k_is)
    (case c_used => k_is)
    (case k_used => k_is)
    (case a_Pairing_init => k_is)
    (case i_Pairing_init => k_is)
    (case l_Pairing_init => k_is)
    (case c_Pairing_init => k_is)
    (case k_Pairing_init => k_is)
    (case a_Pairing_eq => k_is)
    (case i_Pairing_eq => k_is)
    (case l_Pairing_eq => k_is)
    (case c_Pairing_eq => k_is)
    (case k_Pairing_eq => k_is)
    (case a_is_thing => k_is)
    (case l_is_thing => k_is)
    (case c_is_thing => k_is)
    (case k_is_thing => k_is)
    (case a_is_tie => k_is)
    (case l_is_tie => k_is)
    (case c_is_tie => k_is)
    (case k_is_tie => k_is)
    (case a_numbered => k_is)
    (case l_numbered => k_is)
    (case c_numbered => k_is)
    (case k_numbered => k_is)
    (case a_of_web => k_is)
    (case l_of_web => k_is)
    (case c_of_web => k_is)
    (case k_of_web => k_is)
    (case a_all_words => k_is)
    (case l_all_words => k_is)
    (case c_all_words => k_is)
    (case k_all_words => k_is)
    (case a_Strong_init => k_is)
    (case i_Strong_init => k_is)
    (case l_Strong_init => k_is)
    (case c_Strong_init => k_is)
    (case k_Strong_init => k_is)
    (case a_Strong_eq => k_is)
    (case i_Strong_eq => k_is)
    (case l_Strong_eq => k_is)
    (case c_Strong_eq => k_is)
    (case k_Strong_eq => k_is)
    (case a_NotStrong_init => k_is)
    (case i_NotStrong_init => k_is)
    (case l_NotStrong_init => k_is)
    (case c_NotStrong_init => k_is)
    (case k_NotStrong_init => k_is)
    (case a_NotStrong_eq => k_is)
    (case i_NotStrong_eq => k_is)
    (case l_NotStrong_eq => k_is)
    (case c_NotStrong_eq => k_is)
    (case k_NotStrong_eq => k_is)
    (case a_tie_rows => k_is)
    (case l_tie_rows => k_is)
    (case c_tie_rows => k_is)
    (case k_tie_rows => k_is)
    (case a_both_tied => k_is)
    (case l_both_tied => k_is)
    (case c_both_tied => k_is)
    (case k_both_tied => k_is)
    (case a_pair_sort => k_is)
    (case l_pair_sort => k_is)
    (case c_pair_sort => k_is)
    (case k_pair_sort => k_is)
    (case a_settled_strong => k_is)
    (case l_settled_strong => k_is)
    (case c_settled_strong => k_is)
    (case k_settled_strong => k_is)
    (case a_is_pair_of_things => k_is)
    (case l_is_pair_of_things => k_is)
    (case c_is_pair_of_things => k_is)
    (case k_is_pair_of_things => k_is)
    (case a_strong_fault => k_is)
    (case l_strong_fault => k_is)
    (case c_strong_fault => k_is)
    (case k_strong_fault => k_is)
    (case a__law_pen => k_is)
    (case l__law_pen => k_is)
    (case c__law_pen => k_is)
    (case k__law_pen => k_is)
    (case a__law_draw => k_is)
    (case l__law_draw => k_is)
    (case c__law_draw => k_is)
    (case k__law_draw => k_is)
    (case a__law_pick => k_is)
    (case l__law_pick => k_is)
    (case c__law_pick => k_is)
    (case k__law_pick => k_is)
    (case a__law_shuffled => k_is)
    (case l__law_shuffled => k_is)
    (case c__law_shuffled => k_is)
    (case k__law_shuffled => k_is)
    (case a__law_e_lots => k_is)
    (case l__law_e_lots => k_is)
    (case c__law_e_lots => k_is)
    (case k__law_e_lots => k_is)
    (case a__law_e_words => k_is)
    (case l__law_e_words => k_is)
    (case c__law_e_words => k_is)
    (case k__law_e_words => k_is)
    (case a__law_e_apart => k_is)
    (case l__law_e_apart => k_is)
    (case c__law_e_apart => k_is)
    (case k__law_e_apart => k_is)
    (case a__law_e_missing => k_is)
    (case l__law_e_missing => k_is)
    (case c__law_e_missing => k_is)
    (case k__law_e_missing => k_is)
    (case a__law_e_pairs => k_is)
    (case l__law_e_pairs => k_is)
    (case c__law_e_pairs => k_is)
    (case k__law_e_pairs => k_is)
    (case a__law_e_some_web => k_is)
    (case l__law_e_some_web => k_is)
    (case c__law_e_some_web => k_is)
    (case k__law_e_some_web => k_is)
    (case a__law_e_tied => k_is)
    (case l__law_e_tied => k_is)
    (case c__law_e_tied => k_is)
    (case k__law_e_tied => k_is)
    (case a__law_e_both => k_is)
    (case l__law_e_both => k_is)
    (case c__law_e_both => k_is)
    (case k__law_e_both => k_is)
    (case a__law_e_strong => k_is)
    (case l__law_e_strong => k_is)
    (case c__law_e_strong => k_is)
    (case k__law_e_strong => k_is)
    (case a__law_e_is_pair => k_is)
    (case l__law_e_is_pair => k_is)
    (case c__law_e_is_pair => k_is)
    (case k__law_e_is_pair => k_is)
    (case a__law_due => k_is)
    (case l__law_due => k_is)
    (case c__law_due => k_is)
    (case k__law_due => k_is)
    (case a__law_some_pair => k_is)
    (case l__law_some_pair => k_is)
    (case c__law_some_pair => k_is)
    (case k__law_some_pair => k_is)
    (case a_law => k_is)
    (case l_law => k_is)
    (case c_law => k_is)
    (case k_law => k_is)
    (case pg_Pairing => k_is)
    (case hd_Pairing => k_is)
    (case po_Pairing => k_is)
    (case sa_Pairing => k_is)
    (case ha_Pairing => k_is)
    (case hm_Pairing => k_is)
    (case mk_Pairing => k_is)
    (case kc_Pairing => k_is)
    (case ic_Pairing => k_is)
    (case hs_Pairing => first | rfl | k_is)
    (case tc_Pairing => k_is)
    (case ne_Pairing => k_is)
    (case n_Pairing_rows => k_is)
    (case n_Pairing_many => k_is)
    (case n_Pairing_kinds => k_is)
    (case t_Pairing_NoneType => k_is)
    (case t_Pairing_bool => k_is)
    (case t_Pairing_int => k_is)
    (case t_Pairing_str => k_is)
    (case t_Pairing_list => k_is)
    (case t_Pairing_tuple => k_is)
    (case t_Pairing_dict => k_is)
    (case s_Pairing_Strong => k_is)
    (case s_Pairing_NotStrong => k_is)
    (case pg_Strong => k_is)
    (case hd_Strong => k_is)
    (case po_Strong => k_is)
    (case sa_Strong => k_is)
    (case ha_Strong => k_is)
    (case hm_Strong => k_is)
    (case mk_Strong => k_is)
    (case kc_Strong => k_is)
    (case ic_Strong => k_is)
    (case hs_Strong => first | rfl | k_is)
    (case tc_Strong => k_is)
    (case ne_Strong => k_is)
    (case n_Strong_k => k_is)
    (case n_Strong_l => k_is)
    (case n_Strong_m => k_is)
    (case t_Strong_NoneType => k_is)
    (case t_Strong_bool => k_is)
    (case t_Strong_int => k_is)
    (case t_Strong_str => k_is)
    (case t_Strong_list => k_is)
    (case t_Strong_tuple => k_is)
    (case t_Strong_dict => k_is)
    (case s_Strong_Pairing => k_is)
    (case s_Strong_NotStrong => k_is)
    (case pg_NotStrong => k_is)
    (case hd_NotStrong => k_is)
    (case po_NotStrong => k_is)
    (case sa_NotStrong => k_is)
    (case ha_NotStrong => k_is)
    (case hm_NotStrong => k_is)
    (case mk_NotStrong => k_is)
    (case kc_NotStrong => k_is)
    (case ic_NotStrong => k_is)
    (case hs_NotStrong => first | rfl | k_is)
    (case tc_NotStrong => k_is)
    (case ne_NotStrong => k_is)
    (case n_NotStrong_one => k_is)
    (case n_NotStrong_other => k_is)
    (case t_NotStrong_NoneType => k_is)
    (case t_NotStrong_bool => k_is)
    (case t_NotStrong_int => k_is)
    (case t_NotStrong_str => k_is)
    (case t_NotStrong_list => k_is)
    (case t_NotStrong_tuple => k_is)
    (case t_NotStrong_dict => k_is)
    (case s_NotStrong_Pairing => k_is)
    (case s_NotStrong_Strong => k_is)
    (case hn => k_is)
    (case htk => k_is)
    (case v_MOST_THINGS => k_is)
    (case z_all => k_is)
    (case z_any => k_is)
    (case z_bool => k_is)
    (case z_enumerate => k_is)
    (case z_int => k_is)
    (case z_isinstance => k_is)
    (case z_len => k_is)
    (case z_list => k_is)
    (case z_max => k_is)
    (case z_range => k_is)
    (case z_set => k_is)
    (case z_sorted => k_is)
    (case z_sum => k_is)
    (case z_tuple => k_is)
    (case z_zip => k_is)
