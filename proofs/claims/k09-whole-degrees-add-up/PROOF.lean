import PyProof.Rows.All
import Wide.All
import OpenK.AllK
import Wide.FinOn
import HandS.ForMost
import HandS.IsInst
import HandS.TupAny
import HandS.Wide
import HandS.SortInts
import HandS.Walk
import HandS.Zip
import HandS.Rev
import KE.DataMinMax
import KE.DataAny
import KE.DataFind
import KE.DataIsa
import KE.DataCmp
import KE.DataEq
import KE.SortData
import KE.DatumIndex
import HandS.TupMul
import KE.KTupSum
import KE.GoesEnum
import HandS.Style
import HandS.RaiseMore
import HandS.Conv
import PySem.Challenge.RW_listedges_k09_whole_degrees_add_up
set_option Elab.async false
set_option linter.all false
set_option maxRecDepth 100000
set_option maxHeartbeats 4000000
namespace DL
open PySem L2 PySem.Spec

/-! ### ownership types, stable data -/
inductive Ty where
  | u | s | q | l (t : Ty) | r (ts : List Ty)

/-- stable data: read off the kept heap G; every length within the line -/
inductive Dq (K : PySem.W.Frag) (G : Hp) : V → PyData → Prop
  | non : Dq K G .non .none
  | bl (b : Bool) : Dq K G (.bl b) (.bool b)
  | int (i : Int) : Dq K G (.int i) (.int i)
  | str (x : Str) : x.length ≤ sizeLine → Dq K G (.str x) (.str x)
  | lst {a : Addr} {xs : List V} {ds : List PyData} : Rd G a (.lst xs) → xs.length = ds.length → xs.length ≤ sizeLine → (∀ (i : Nat) (v : V) (d : PyData), xs[i]? = some v → ds[i]? = some d → Dq K G v d) → Dq K G (.ref a) (.list ds)
  | tup {a : Addr} {xs : List V} {ds : List PyData} : SqT K G a xs → xs.length = ds.length → xs.length ≤ sizeLine → (∀ (i : Nat) (v : V) (d : PyData), xs[i]? = some v → ds[i]? = some d → Dq K G v d) → Dq K G (.ref a) (.tuple ds)

def DqA (K : PySem.W.Frag) (G : Hp) (xs : List V) (ds : List PyData) : Prop := xs.length = ds.length ∧ ∀ (i : Nat) (v : V) (d : PyData), xs[i]? = some v → ds[i]? = some d → Dq K G v d

section
variable {K : PySem.W.Frag} {G G' H H' : Hp}

theorem same_rd {a : Addr} {u : HO} (e : Same G G') (h : Rd G a u) : Rd G' a u := by
  rcases h with h | ⟨o, h⟩
  · exact .inl (e _ _ h)
  · exact .inr ⟨o, e _ _ h⟩
theorem same_seqT {a : Addr} {xs : List V} (e : Same G G') (h : SqT K G a xs) : SqT K G' a xs := by
  rcases h with (h | ⟨o, h⟩) | h
  · exact .inl (.inl (e _ _ h))
  · exact .inl (.inr ⟨o, e _ _ h⟩)
  · exact .inr h

theorem same_seqL {a : Addr} {xs : List V} (e : Same G G') (h : SqL K G a xs) : SqL K G' a xs := h.imp (same_rd e) id
theorem Dq.mono (e : Same G G') {v : V} {d : PyData} (h : Dq K G v d) : Dq K G' v d := by
  induction h with
  | non => exact .non
  | bl b => exact .bl b
  | int i => exact .int i
  | str x hx => exact .str x hx
  | lst hs hl hz _ ih => exact .lst (same_rd e hs) hl hz ih
  | tup hs hl hz _ ih => exact .tup (same_seqT e hs) hl hz ih

theorem DqA.mono (e : Same G G') {xs : List V} {ds : List PyData} (h : DqA K G xs ds) : DqA K G' xs ds := ⟨h.1, fun i v d a b => (h.2 i v d a b).mono e⟩

theorem DqA.nil : DqA K G [] [] := ⟨rfl, fun i v d h _ => by simp at h⟩
theorem DqA.cons {v : V} {d : PyData} {vs : List V} {ds : List PyData} (h : Dq K G v d) (t : DqA K G vs ds) : DqA K G (v :: vs) (d :: ds) := by
  refine ⟨by simp [t.1], fun i x y hx hy => ?_⟩
  cases i with
  | zero => simp at hx hy; subst hx; subst hy; exact h
  | succ i => simp at hx hy; exact t.2 i x y hx hy
theorem DqA.head {v : V} {d : PyData} {vs : List V} {ds : List PyData} (h : DqA K G (v :: vs) (d :: ds)) : Dq K G v d := h.2 0 v d rfl rfl
theorem DqA.tail {v : V} {d : PyData} {vs : List V} {ds : List PyData} (h : DqA K G (v :: vs) (d :: ds)) : DqA K G vs ds :=
  ⟨by have := h.1; simpa using this, fun i x y hx hy => h.2 (i + 1) x y (by simpa using hx) (by simpa using hy)⟩
theorem DqA.append {vs ws : List V} {ds es : List PyData} (h : DqA K G vs ds) (t : DqA K G ws es) : DqA K G (vs ++ ws) (ds ++ es) := by
  refine ⟨by simp [h.1, t.1], fun i x y hx hy => ?_⟩
  by_cases hi : i < vs.length
  · rw [List.getElem?_append_left hi] at hx
    rw [List.getElem?_append_left (by rw [← h.1]; exact hi)] at hy
    exact h.2 i x y hx hy
  · rw [List.getElem?_append_right (by omega)] at hx
    rw [List.getElem?_append_right (by rw [← h.1]; omega), ← h.1] at hy
    exact t.2 _ x y hx hy
theorem DqA.get {vs : List V} {ds : List PyData} (h : DqA K G vs ds) {i : Nat} {d : PyData} (e : ds[i]? = some d) : ∃ v, vs[i]? = some v ∧ Dq K G v d := by
  have hi : i < vs.length := by rw [h.1]; exact (List.getElem?_eq_some_iff.mp e).1
  exact ⟨vs[i], List.getElem?_eq_getElem hi, h.2 i _ _ (List.getElem?_eq_getElem hi) e⟩
end

mutual
/-- t owned: its own lists at A, the rest stable in G -/
inductive Own (K : PySem.W.Frag) (G H : Hp) : Ty → PyData → Option V → List Addr → Prop
  | u (d : PyData) (v : Option V) : Own K G H .u d v []
  | s {d : PyData} {v : V} : Dq K G v d → Own K G H .s d (some v) []
  | q {a : Addr} {ns : List Int} : SqL K G a (ns.map V.int) → ns.length ≤ sizeLine → Own K G H .q (.list (ns.map PyData.int)) (some (.ref a)) []
  | l {t : Ty} {a : Addr} {vs : List V} {ds : List PyData} {A : List Addr} : G a = none → H a = some (.lst vs) → vs.length ≤ sizeLine → OwnA K G H (List.replicate ds.length t) ds (vs.map some) A → Own K G H (.l t) (.list ds) (some (.ref a)) (a :: A)
  | r {ts : List Ty} {a : Addr} {vs : List V} {ds : List PyData} {A : List Addr} : G a = none → H a = some (.lst vs) → vs.length ≤ sizeLine → OwnA K G H ts ds (vs.map some) A → Own K G H (.r ts) (.list ds) (some (.ref a)) (a :: A)
inductive OwnA (K : PySem.W.Frag) (G H : Hp) : List Ty → List PyData → List (Option V) → List Addr → Prop
  | nil : OwnA K G H [] [] [] []
  | cons {t : Ty} {ts : List Ty} {d : PyData} {ds : List PyData} {v : Option V} {vs : List (Option V)} {A B : List Addr} : Own K G H t d v A → OwnA K G H ts ds vs B → OwnA K G H (t :: ts) (d :: ds) (v :: vs) (A ++ B)
end

section
variable {K : PySem.W.Frag} {G G' H H' : Hp}
/-- owned addresses stand in H, not in G -/
theorem own_at {t : Ty} {d : PyData} {v : Option V} {A : List Addr} (h : Own K G H t d v A) : ∀ a ∈ A, G a = none ∧ ∃ o, H a = some o := by
  refine Own.rec (K := K) (G := G) (H := H) (motive_1 := fun t d v A _ => ∀ a ∈ A, G a = none ∧ ∃ o, H a = some o) (motive_2 := fun ts ds vs A _ => ∀ a ∈ A, G a = none ∧ ∃ o, H a = some o) ?_ ?_ ?_ ?_ ?_ ?_ ?_ h
  · intro d v a ha; cases ha
  · intro d v _ a ha; cases ha
  · intro a ns _ _ b hb; cases hb
  · intro t a vs ds A h1 h2 _ _ ih b hb
    rcases List.mem_cons.mp hb with rfl | hb
    · exact ⟨h1, _, h2⟩
    · exact ih b hb
  · intro t a vs ds A h1 h2 _ _ ih b hb
    rcases List.mem_cons.mp hb with rfl | hb
    · exact ⟨h1, _, h2⟩
    · exact ih b hb
  · intro a ha; cases ha
  · intro t ts d ds v vs A B _ _ i1 i2 a ha
    rcases List.mem_append.mp ha with ha | ha
    · exact i1 a ha
    · exact i2 a ha
theorem ownA_at {t : List Ty} {d : List PyData} {v : List (Option V)} {A : List Addr} (h : OwnA K G H t d v A) : ∀ a ∈ A, G a = none ∧ ∃ o, H a = some o := by
  induction t generalizing d v A with
  | nil => cases h; intro a ha; cases ha
  | cons t ts ih =>
    cases h with
    | cons h1 h2 =>
      intro a ha
      rcases List.mem_append.mp ha with ha | ha
      · exact own_at h1 a ha
      · exact ih h2 a ha
/-- framing -/
theorem own_fr {t : Ty} {d : PyData} {v : Option V} {A : List Addr} (h : Own K G H t d v A) (e : Same G G') (hg : ∀ a ∈ A, G' a = none) (hh : ∀ a ∈ A, H' a = H a) : Own K G' H' t d v A := by
  refine Own.rec (K := K) (G := G) (H := H) (motive_1 := fun t d v A _ => (∀ a ∈ A, G' a = none) → (∀ a ∈ A, H' a = H a) → Own K G' H' t d v A) (motive_2 := fun t d v A _ => (∀ a ∈ A, G' a = none) → (∀ a ∈ A, H' a = H a) → OwnA K G' H' t d v A) ?_ ?_ ?_ ?_ ?_ ?_ ?_ h hg hh
  · intro d v _ _; exact .u d v
  · intro d v h _ _; exact .s (h.mono e)
  · intro a ns h hz _ _; exact .q (same_seqL e h) hz
  · intro t a vs ds A h1 h2 hz _ ih hg hh
    exact .l (hg a (List.mem_cons_self ..)) (by rw [hh a (List.mem_cons_self ..)]; exact h2) hz (ih (fun b hb => hg b (List.mem_cons_of_mem _ hb)) fun b hb => hh b (List.mem_cons_of_mem _ hb))
  · intro t a vs ds A h1 h2 hz _ ih hg hh
    exact .r (hg a (List.mem_cons_self ..)) (by rw [hh a (List.mem_cons_self ..)]; exact h2) hz (ih (fun b hb => hg b (List.mem_cons_of_mem _ hb)) fun b hb => hh b (List.mem_cons_of_mem _ hb))
  · intro _ _; exact .nil
  · intro t ts d ds v vs A B _ _ i1 i2 hg hh
    exact .cons (i1 (fun b hb => hg b (List.mem_append_left _ hb)) fun b hb => hh b (List.mem_append_left _ hb)) (i2 (fun b hb => hg b (List.mem_append_right _ hb)) fun b hb => hh b (List.mem_append_right _ hb))
theorem ownA_fr {t : List Ty} {d : List PyData} {v : List (Option V)} {A : List Addr} (h : OwnA K G H t d v A) (e : Same G G') (hg : ∀ a ∈ A, G' a = none) (hh : ∀ a ∈ A, H' a = H a) : OwnA K G' H' t d v A := by
  induction t generalizing d v A with
  | nil => cases h; exact .nil
  | cons t ts ih =>
    cases h with
    | cons h1 h2 =>
      exact .cons (own_fr h1 e (fun b hb => hg b (List.mem_append_left _ hb)) fun b hb => hh b (List.mem_append_left _ hb)) (ih h2 (fun b hb => hg b (List.mem_append_right _ hb)) fun b hb => hh b (List.mem_append_right _ hb))
theorem ownA_len {t : List Ty} {d : List PyData} {v : List (Option V)} {A : List Addr} (h : OwnA K G H t d v A) : t.length = d.length ∧ v.length = d.length := by
  induction t generalizing d v A with
  | nil => cases h; exact ⟨rfl, rfl⟩
  | cons t ts ih =>
    cases h with
    | cons h1 h2 =>
      obtain ⟨a, b⟩ := ih h2
      simp only [List.length_cons]
      omega
/-- the kept heap with the owned addresses of H laid in -/
def lay (G H : Hp) (A : List Addr) : Hp := fun a => if a ∈ A then H a else G a
theorem lay_in {A : List Addr} {a : Addr} (h : a ∈ A) : lay G H A a = H a := by unfold lay; rw [if_pos h]
theorem lay_out {A : List Addr} {a : Addr} (h : a ∉ A) : lay G H A a = G a := by unfold lay; rw [if_neg h]
end
mutual
/-- no unknown part -/
def nou : Ty → Bool
  | .u => false
  | .s => true
  | .q => false
  | .l t => nou t
  | .r ts => nouL ts
def nouL : List Ty → Bool
  | [] => true
  | t :: ts => nou t && nouL ts
end
theorem nouL_rep {t : Ty} (h : nou t = true) : ∀ n : Nat, nouL (List.replicate n t) = true
  | 0 => rfl
  | n + 1 => by
    show (nou t && nouL (List.replicate n t)) = true
    rw [h, nouL_rep h n]; rfl
section
variable {K : PySem.W.Frag} {G G' H H' : Hp}
/-- frozen: owned data becomes stable data of the grown G -/
theorem own_frz {t : Ty} {d : PyData} {v : Option V} {A : List Addr} (h : Own K G H t d v A) (e : Same G G') (hg : ∀ a ∈ A, G' a = H a) (hn : nou t = true) : ∃ x, v = some x ∧ Dq K G' x d := by
  refine Own.rec (K := K) (G := G) (H := H) (motive_1 := fun t d v A _ => (∀ a ∈ A, G' a = H a) → nou t = true → ∃ x, v = some x ∧ Dq K G' x d)
    (motive_2 := fun t d v A _ => (∀ a ∈ A, G' a = H a) → nouL t = true → ∀ vs : List V, v = vs.map some → DqA K G' vs d) ?_ ?_ ?_ ?_ ?_ ?_ ?_ h hg hn
  · intro d v _ h; exact absurd h (by simp [nou])
  · intro d v h _ _; exact ⟨_, rfl, h.mono e⟩
  · intro a ns _ _ _ h; exact absurd h (by simp [nou])
  · intro t a vs ds A h1 h2 hz _ ih hg hn
    have q := ih (fun b hb => hg b (List.mem_cons_of_mem _ hb)) (nouL_rep (by simpa [nou] using hn) _) vs rfl
    have ea : G' a = some (.lst vs) := by rw [hg a (List.mem_cons_self ..)]; exact h2
    exact ⟨_, rfl, .lst (.inl ea) q.1 hz q.2⟩
  · intro t a vs ds A h1 h2 hz _ ih hg hn
    have q := ih (fun b hb => hg b (List.mem_cons_of_mem _ hb)) (by simpa [nou] using hn) vs rfl
    have ea : G' a = some (.lst vs) := by rw [hg a (List.mem_cons_self ..)]; exact h2
    exact ⟨_, rfl, .lst (.inl ea) q.1 hz q.2⟩
  · intro _ _ vs hv
    cases vs with
    | nil => exact DqA.nil
    | cons _ _ => cases hv
  · intro t ts d ds v vs A B _ _ i1 i2 hg hn ws hw
    cases ws with
    | nil => cases hw
    | cons x ws =>
      simp only [List.map_cons, List.cons.injEq] at hw
      obtain ⟨hx, hw⟩ := hw
      simp only [nouL, Bool.and_eq_true] at hn
      obtain ⟨y, hy, q⟩ := i1 (fun b hb => hg b (List.mem_append_left _ hb)) hn.1
      rw [hx] at hy
      cases hy
      exact DqA.cons q (i2 (fun b hb => hg b (List.mem_append_right _ hb)) hn.2 ws hw)

/-! ### states and steps -/
structure Stt (K : PySem.W.Frag) (m : List Ty) (G H : Hp) (σ : St) (e : List PyData) (A : List Addr) : Prop where
  own : OwnA K G H m e σ A
  nd : A.Nodup
  sub : Same G H
structure Step (A : List Addr) (G H : Hp) (B : List Addr) (G' H' : Hp) : Prop where
  sg : Same G G'
  fr : ∀ a o, H a = some o → a ∉ A → H' a = some o
  own : ∀ a ∈ B, a ∈ A ∨ H a = none
  gnew : ∀ a, G a = none → (∃ o, G' a = some o) → a ∈ A ∨ H a = none
theorem Step.refl {A : List Addr} : Step A G H A G H := ⟨Same.refl G, fun _ _ h _ => h, fun _ h => .inl h, fun a h ⟨o, e⟩ => by rw [h] at e; cases e⟩
theorem none_or (H : Hp) (a : Addr) : H a = none ∨ ∃ o, H a = some o := by
  cases h : H a with
  | none => exact .inl rfl
  | some o => exact .inr ⟨o, rfl⟩
theorem Step.back {A B : List Addr} (s : Step A G H B G' H') {a : Addr} (h : H' a = none) : a ∈ A ∨ H a = none := by
  by_cases ha : a ∈ A
  · exact .inl ha
  · rcases none_or H a with e | ⟨o, e⟩
    · exact .inr e
    · rw [s.fr a o e ha] at h; cases h
/-- a step from what a step left, a value at Av kept aside -/
theorem Step.seq {A Av A1 B : List Addr} {G1 H1 G2 H2 : Hp} (s1 : Step A G H (Av ++ A1) G1 H1) (o1 : ∀ a ∈ Av, G1 a = none ∧ ∃ o, H1 a = some o) (nd : (Av ++ A1).Nodup) (s2 : Step A1 G1 H1 B G2 H2) (ndB : B.Nodup) :
    Step A G H (Av ++ B) G2 H2 ∧ (Av ++ B).Nodup ∧ (∀ a ∈ Av, G2 a = none) ∧ ∀ a ∈ Av, H2 a = H1 a := by
  have dis : ∀ a ∈ Av, a ∉ A1 := fun a ha hb => (List.nodup_append.mp nd).2.2 a ha a hb rfl
  have key : ∀ a, a ∈ A1 ∨ H1 a = none → a ∈ A ∨ H a = none := fun a h => by
    rcases h with h | h
    · exact s1.own a (List.mem_append_right _ h)
    · exact s1.back h
  refine ⟨⟨s1.sg.trans s2.sg, fun a o e ha => ?_, fun a ha => ?_, fun a e e2 => ?_⟩, ?_, fun a ha => ?_, fun a ha => ?_⟩
  · refine s2.fr a o (s1.fr a o e ha) fun hb => ?_
    rcases s1.own a (List.mem_append_right _ hb) with q | q
    · exact ha q
    · rw [e] at q; cases q
  · rcases List.mem_append.mp ha with ha | ha
    · exact s1.own a (List.mem_append_left _ ha)
    · exact key a (s2.own a ha)
  · rcases none_or G1 a with e1 | e1
    · exact key a (s2.gnew a e1 e2)
    · exact s1.gnew a e e1
  · refine List.nodup_append.mpr ⟨(List.nodup_append.mp nd).1, ndB, fun a ha b hb hab => ?_⟩
    subst hab
    rcases s2.own a hb with q | q
    · exact dis a ha q
    · obtain ⟨o, e⟩ := (o1 a ha).2
      rw [e] at q; cases q
  · rcases none_or G2 a with e | e
    · exact e
    · rcases s2.gnew a (o1 a ha).1 e with q | q
      · exact absurd q (dis a ha)
      · obtain ⟨o, e⟩ := (o1 a ha).2
        rw [e] at q; cases q
  · obtain ⟨o, e⟩ := (o1 a ha).2
    rw [e, s2.fr a o e (dis a ha)]
theorem Step.seq0 {A A1 B : List Addr} {G1 H1 G2 H2 : Hp} (s1 : Step A G H A1 G1 H1) (s2 : Step A1 G1 H1 B G2 H2) : Step A G H B G2 H2 := by
  have key : ∀ a, a ∈ A1 ∨ H1 a = none → a ∈ A ∨ H a = none := fun a h => by
    rcases h with h | h
    · exact s1.own a h
    · exact s1.back h
  refine ⟨s1.sg.trans s2.sg, fun a o e ha => ?_, fun a ha => key a (s2.own a ha), fun a e e2 => ?_⟩
  · refine s2.fr a o (s1.fr a o e ha) fun hb => ?_
    rcases s1.own a hb with q | q
    · exact ha q
    · rw [e] at q; cases q
  · rcases none_or G1 a with e1 | e1
    · exact key a (s2.gnew a e1 e2)
    · exact s1.gnew a e e1
theorem Step.less {A B B' : List Addr} (s : Step A G H B G' H') (h : ∀ a ∈ B', a ∈ B) : Step A G H B' G' H' := ⟨s.sg, s.fr, fun a ha => s.own a (h a ha), s.gnew⟩

/-- a new stable object -/
theorem new_s {A : List Addr} {m : List Ty} {σ : St} {e : List PyData} {p : Addr} {o : HO} (st : Stt K m G H σ e A) (hp : H p = none) :
    Step A G H A (upd G p o) (upd H p o) ∧ Stt K m (upd G p o) (upd H p o) σ e A ∧ Same G (upd G p o) := by
  have gp : G p = none := st.sub.free hp
  have sg : Same G (upd G p o) := fun b x hx => by rw [upd_ne (ne_of_none hx gp)]; exact hx
  have nA : ∀ a ∈ A, a ≠ p := fun a ha q => by
    obtain ⟨_, o, e⟩ := ownA_at st.own a ha
    rw [q, hp] at e; cases e
  refine ⟨⟨sg, fun a x hx _ => by rw [upd_ne (ne_of_none hx hp)]; exact hx, fun a ha => .inl ha, fun a e1 ⟨x, e2⟩ => ?_⟩, ⟨ownA_fr st.own sg (fun a ha => ?_) (fun a ha => upd_ne (nA a ha)), st.nd, fun b x hx => ?_⟩, sg⟩
  · by_cases q : a = p
    · subst q; exact .inr hp
    · rw [upd_ne q, e1] at e2; cases e2
  · rw [upd_ne (nA a ha)]; exact (ownA_at st.own a ha).1
  · by_cases q : b = p
    · subst q; rw [upd_same] at hx ⊢; exact hx
    · rw [upd_ne q] at hx ⊢; exact st.sub b x hx
/-- a new owned object -/
theorem new_o {A B : List Addr} {m : List Ty} {σ : St} {e : List PyData} {p : Addr} {o : HO} (st : Stt K m G H σ e A) (hp : H p = none) :
    Step A G H (p :: A) G (upd H p o) ∧ Stt K m G (upd H p o) σ e A ∧ (p :: A).Nodup ∧ G p = none := by
  have gp : G p = none := st.sub.free hp
  have nA : ∀ a ∈ A, a ≠ p := fun a ha q => by
    obtain ⟨_, o, e⟩ := ownA_at st.own a ha
    rw [q, hp] at e; cases e
  refine ⟨⟨Same.refl G, fun a x hx _ => by rw [upd_ne (ne_of_none hx hp)]; exact hx, fun a ha => ?_, fun a e1 ⟨x, e2⟩ => by rw [e1] at e2; cases e2⟩,
    ⟨ownA_fr st.own (Same.refl G) (fun a ha => (ownA_at st.own a ha).1) (fun a ha => upd_ne (nA a ha)), st.nd, fun b x hx => ?_⟩, ?_, gp⟩
  · rcases List.mem_cons.mp ha with rfl | ha
    · exact .inr hp
    · exact .inl ha
  · rw [upd_ne (ne_of_none hx gp)]; exact st.sub b x hx
  · exact List.nodup_cons.mpr ⟨fun h => nA p h rfl, st.nd⟩
/-- what is owned is frozen: G grows by it -/
theorem frz {A Av : List Addr} {m : List Ty} {σ : St} {e : List PyData} (st : Stt K m G H σ e A) (hv : ∀ a ∈ Av, G a = none ∧ ∃ o, H a = some o) (nd : (Av ++ A).Nodup) :
    Step (Av ++ A) G H A (lay G H Av) H ∧ Stt K m (lay G H Av) H σ e A ∧ Same G (lay G H Av) ∧ ∀ a ∈ Av, lay G H Av a = H a := by
  have dis : ∀ a ∈ A, a ∉ Av := fun a ha hb => (List.nodup_append.mp nd).2.2 a hb a ha rfl
  have sg : Same G (lay G H Av) := fun b x hx => by
    by_cases q : b ∈ Av
    · rw [(hv b q).1] at hx; cases hx
    · rw [lay_out q]; exact hx
  refine ⟨⟨sg, fun a o h _ => h, fun a ha => .inl (List.mem_append_right _ ha), fun a e1 ⟨o, e2⟩ => ?_⟩, ⟨ownA_fr st.own sg (fun a ha => ?_) (fun _ _ => rfl), st.nd, fun b x hx => ?_⟩, sg, fun a ha => lay_in ha⟩
  · by_cases q : a ∈ Av
    · exact .inl (List.mem_append_left _ q)
    · rw [lay_out q, e1] at e2; cases e2
  · rw [lay_out (dis a ha)]; exact (ownA_at st.own a ha).1
  · by_cases q : b ∈ Av
    · rw [lay_in q] at hx; exact hx
    · rw [lay_out q] at hx; exact st.sub b x hx
end
end DL

namespace DL
open PySem L2 PySem.Spec

abbrev En := List PyData
abbrev Ef := En → Option (PyData × En)
abbrev Bf := En → Option (Bool × En)
abbrev Lf := En → Option (List PyData × En)

section
variable {K : PySem.W.Frag} {G G' H H' : Hp}
/-- the j-th taken out -/
theorem ownA_take {ts : List Ty} {ds : List PyData} {vs : List (Option V)} {A : List Addr} (h : OwnA K G H ts ds vs A) {j : Nat} {t : Ty} (e : ts[j]? = some t) :
    ∃ d v Aj A0, ds[j]? = some d ∧ vs[j]? = some v ∧ Own K G H t d v Aj ∧ OwnA K G H (ts.set j .u) ds vs A0 ∧ A.Perm (Aj ++ A0) := by
  induction ts generalizing ds vs A j with
  | nil => simp at e
  | cons t0 ts ih =>
    cases h with
    | @cons _ _ d ds v vs A B h1 h2 =>
      cases j with
      | zero =>
        simp at e; subst e
        exact ⟨d, v, A, B, rfl, rfl, h1, by simpa using OwnA.cons (.u d v) h2, List.Perm.refl _⟩
      | succ j =>
        obtain ⟨d', v', Aj, A0, e1, e2, o1, o2, p⟩ := ih h2 (by simpa using e)
        refine ⟨d', v', Aj, A ++ A0, by simpa using e1, by simpa using e2, o1, OwnA.cons h1 o2, ?_⟩
        exact (List.Perm.append_left A p).trans (by rw [← List.append_assoc, ← List.append_assoc]; exact List.Perm.append_right _ List.perm_append_comm)
/-- the j-th put in -/
theorem ownA_put {ts : List Ty} {ds : List PyData} {vs : List (Option V)} {A0 : List Addr} (h : OwnA K G H ts ds vs A0) {j : Nat} (hj : ts[j]? = some .u) {t : Ty} {d : PyData} {v : Option V} {Aj : List Addr} (o : Own K G H t d v Aj) :
    ∃ A, OwnA K G H (ts.set j t) (ds.set j d) (vs.set j v) A ∧ A.Perm (Aj ++ A0) := by
  induction ts generalizing ds vs A0 j with
  | nil => simp at hj
  | cons t0 ts ih =>
    cases h with
    | @cons _ _ d0 ds v0 vs A B h1 h2 =>
      cases j with
      | zero =>
        simp at hj; subst hj
        cases h1
        exact ⟨Aj ++ B, by simpa using OwnA.cons o h2, by simp⟩
      | succ j =>
        obtain ⟨A', o2, p⟩ := ih h2 (by simpa using hj)
        refine ⟨A ++ A', by simpa using OwnA.cons h1 o2, ?_⟩
        exact (List.Perm.append_left A p).trans (by rw [← List.append_assoc, ← List.append_assoc]; exact List.Perm.append_right _ List.perm_append_comm)
/-- a type forgotten -/
theorem ownA_hide {ts : List Ty} {ds : List PyData} {vs : List (Option V)} {A : List Addr} (h : OwnA K G H ts ds vs A) (j : Nat) : ∃ A0, OwnA K G H (ts.set j .u) ds vs A0 ∧ ∃ B, A.Perm (B ++ A0) := by
  cases e : ts[j]? with
  | none => exact ⟨A, by rw [List.set_eq_of_length_le (by simpa using e)]; exact h, [], by simp⟩
  | some t =>
    obtain ⟨d, v, Aj, A0, _, _, _, o, p⟩ := ownA_take h e
    exact ⟨A0, o, Aj, p⟩
theorem ownA_getS {ts : List Ty} {ds : List PyData} {vs : List (Option V)} {A : List Addr} (h : OwnA K G H ts ds vs A) {j : Nat} (e : ts[j]? = some .s) : ∃ d v, ds[j]? = some d ∧ vs[j]? = some (some v) ∧ Dq K G v d := by
  obtain ⟨d, v, Aj, A0, e1, e2, o, _, _⟩ := ownA_take h e
  cases o with
  | s h => exact ⟨d, _, e1, e2, h⟩
end

theorem set_id {α : Type} {l : List α} {j : Nat} {x : α} (h : l[j]? = some x) : l.set j x = l := by
  apply List.ext_getElem?
  intro i
  rw [List.getElem?_set]
  split
  · rename_i hij; subst hij
    obtain ⟨h1, h2⟩ := List.getElem?_eq_some_iff.mp h
    simp [h1, h2]
  · rfl
theorem stt_frz {K : PySem.W.Frag} {G H : Hp} {m : List Ty} {σ : St} {e : En} {A : List Addr} {j : Nat} {t : Ty} (st : Stt K m G H σ e A) (hm : m[j]? = some t) (hn : nou t = true) :
    ∃ G' A', Step A G H A' G' H ∧ Stt K (m.set j .s) G' H σ e A' := by
  obtain ⟨d', v, Aj, A0, h1, h2, h3, h4, hp⟩ := ownA_take st.own hm
  have nd : (Aj ++ A0).Nodup := hp.nodup_iff.mp st.nd
  have st0 : Stt K (m.set j .u) G H σ e A0 := ⟨h4, (List.nodup_append.mp nd).2.1, st.sub⟩
  obtain ⟨s1, st1, sg, hl⟩ := frz st0 (own_at h3) nd
  obtain ⟨x, rfl, q⟩ := own_frz h3 sg hl hn
  have hj : (m.set j .u)[j]? = some .u := by
    have := (List.getElem?_eq_some_iff.mp hm).1
    simp [this]
  obtain ⟨A', o', p'⟩ := ownA_put st1.own hj (.s q)
  rw [set_id h1, set_id h2, List.set_set] at o'
  have pA : A'.Perm A0 := by simpa using p'
  refine ⟨_, A', ⟨s1.sg, fun a o h _ => h, fun a ha => .inl (hp.mem_iff.mpr (List.mem_append_right _ (pA.mem_iff.mp ha))), fun a h1 h2 => .inl ((s1.gnew a h1 h2).elim (fun z => hp.mem_iff.mpr z) fun z => ?_)⟩, ⟨o', pA.nodup_iff.mpr st1.nd, st1.sub⟩⟩
  obtain ⟨o, ho⟩ := h2
  by_cases q : a ∈ Aj
  · exact hp.mem_iff.mpr (List.mem_append_left _ q)
  · rw [lay_out q, h1] at ho; cases ho

/-! ### readings over data -/
def DE (K : PySem.W.Frag) (m : List Ty) (te : TE) (ty : Ty) (f : Ef) (m' : List Ty) : Prop :=
  ∀ {G H : Hp} {σ : St} {e : En} {A : List Addr} {d : PyData} {e' : En} {Q : VK}, Stt K m G H σ e A → f e = some (d, e') →
    (∀ (G' H' : Hp) (v : V) (Av A' : List Addr), Step A G H (Av ++ A') G' H' → Stt K m' G' H' σ e' A' → Own K G' H' ty d (some v) Av → (Av ++ A').Nodup → Q v H') → te σ H Q
def DT (K : PySem.W.Frag) (m : List Ty) (tt : TT) (f : Bf) (m' : List Ty) : Prop :=
  ∀ {G H : Hp} {σ : St} {e : En} {A : List Addr} {b : Bool} {e' : En} {Q : Bool → Hp → Prop}, Stt K m G H σ e A → f e = some (b, e') →
    (∀ (G' H' : Hp) (A' : List Addr), Step A G H A' G' H' → Stt K m' G' H' σ e' A' → Q b H') → tt σ H Q
def DA (K : PySem.W.Frag) (m : List Ty) (ta : TA) (tys : List Ty) (f : Lf) (m' : List Ty) : Prop :=
  ∀ {G H : Hp} {σ : St} {e : En} {A : List Addr} {ds : List PyData} {e' : En} {Q : List V → Hp → Prop}, Stt K m G H σ e A → f e = some (ds, e') →
    (∀ (G' H' : Hp) (vs : List V) (Av A' : List Addr), Step A G H (Av ++ A') G' H' → Stt K m' G' H' σ e' A' → OwnA K G' H' tys ds (vs.map some) Av → (Av ++ A').Nodup → Q vs H') → ta σ H Q

/-- a family of contexts that agree on what is fixed -/
class Fam {ι : Type} (Xf : ι → Cx) (P : outParam Program) (w : outParam World) (K : outParam PySem.W.Frag) (mg : outParam (Str → Option Value)) (base : outParam Heap) (n : outParam Nat) : Prop where
  prog : ∀ i, (Xf i).prog = P
  w_ : ∀ i, (Xf i).w = w
  kk : ∀ i, (Xf i).K = K
  mg_ : ∀ i, (Xf i).mg = mg
  base_ : ∀ i, (Xf i).base = base
  room : ∀ i, Room n (Xf i).A
  calm : ∀ i, (Xf i).calm = true
  nd : ∀ i, (Xf i).N.Nodup

structure PD {ι : Type} (Xf : ι → Cx) (K : PySem.W.Frag) (m : List Ty) (e : Expr) (ty : Ty) (f : Ef) (m' : List Ty) : Prop where
  ex : ∃ te : TE, (∀ i, PE (Xf i) e te) ∧ DE K m te ty f m'
structure PB {ι : Type} (Xf : ι → Cx) (K : PySem.W.Frag) (m : List Ty) (e : Expr) (f : Bf) (m' : List Ty) : Prop where
  ex : ∃ tt : TT, (∀ i, PT (Xf i) e tt) ∧ DT K m tt f m'
/-- a test within and, or -/
structure PBw {ι : Type} (Xf : ι → Cx) (K : PySem.W.Frag) (m : List Ty) (e : Expr) (f : Bf) (m' : List Ty) : Prop where
  ex : ∃ tt : TT, (∀ i, PW (Xf i) e tt) ∧ DT K m tt f m'
structure PL {ι : Type} (Xf : ι → Cx) (K : PySem.W.Frag) (m : List Ty) (es : List Expr) (tys : List Ty) (f : Lf) (m' : List Ty) : Prop where
  ex : ∃ ta : TA, (∀ i, PA (Xf i) es ta) ∧ DA K m ta tys f m'

/-! ### operations by values -/
def D1 (K : PySem.W.Frag) (r : V → Hp → VK → Prop) (ty : Ty) (g : PyData → Option PyData) : Prop :=
  ∀ {m : List Ty} {G H : Hp} {σ : St} {e : En} {A : List Addr} {x : V} {dx d : PyData} {Q : VK}, Stt K m G H σ e A → Dq K G x dx → g dx = some d →
    (∀ (G' H' : Hp) (v : V) (Av A' : List Addr), Step A G H (Av ++ A') G' H' → Stt K m G' H' σ e A' → Own K G' H' ty d (some v) Av → (Av ++ A').Nodup → Q v H') → r x H Q
def D2 (K : PySem.W.Frag) (r : R2) (ty : Ty) (g : PyData → PyData → Option PyData) : Prop :=
  ∀ {m : List Ty} {G H : Hp} {σ : St} {e : En} {A : List Addr} {x y : V} {dx dy d : PyData} {Q : VK}, Stt K m G H σ e A → Dq K G x dx → Dq K G y dy → g dx dy = some d →
    (∀ (G' H' : Hp) (v : V) (Av A' : List Addr), Step A G H (Av ++ A') G' H' → Stt K m G' H' σ e A' → Own K G' H' ty d (some v) Av → (Av ++ A').Nodup → Q v H') → r x y H Q
structure Op2 {ι : Type} (Xf : ι → Cx) (K : PySem.W.Frag) (op : Value → Value → Sem Value) (ty : Ty) (g : PyData → PyData → Option PyData) : Prop where
  ex : ∃ r : R2, (∀ i, OpR (Xf i) op r) ∧ D2 K r ty g
structure Ix2 {ι : Type} (Xf : ι → Cx) (K : PySem.W.Frag) (ty : Ty) (g : PyData → PyData → Option PyData) : Prop where
  ex : ∃ r : R2, (∀ i, IxR (Xf i) r) ∧ D2 K r ty g
/-- a built-in called with one stable value, with two -/
structure Cl1 {ι : Type} (Xf : ι → Cx) (K : PySem.W.Frag) (fn : Value) (ty : Ty) (g : PyData → Option PyData) : Prop where
  ex : ∃ r : List V → Hp → VK → Prop, (∀ i, CallR (Xf i) fn r) ∧ D1 K (fun x => r [x]) ty g
structure Cl2 {ι : Type} (Xf : ι → Cx) (K : PySem.W.Frag) (fn : Value) (ty : Ty) (g : PyData → PyData → Option PyData) : Prop where
  ex : ∃ r : List V → Hp → VK → Prop, (∀ i, CallR (Xf i) fn r) ∧ D2 K (fun x y => r [x, y]) ty g

section
variable {K : PySem.W.Frag} {G H : Hp} {m : List Ty} {σ : St} {e : En} {A : List Addr} {d : PyData} {Q : VK} {ty : Ty}
/-- an answer that changes nothing -/
theorem ans_s (st : Stt K m G H σ e A) {v : V} (h : Dq K G v d) (k : ∀ (G' H' : Hp) (v : V) (Av A' : List Addr), Step A G H (Av ++ A') G' H' → Stt K m G' H' σ e A' → Own K G' H' .s d (some v) Av → (Av ++ A').Nodup → Q v H') : Q v H :=
  k G H v [] A Step.refl st (.s h) st.nd
/-- an answer in a new tuple -/
theorem ans_tup (st : Stt K m G H σ e A) {vs : List V} {ds : List PyData} (h : DqA K G vs ds) (hz : vs.length ≤ sizeLine) (k : ∀ (G' H' : Hp) (v : V) (Av A' : List Addr), Step A G H (Av ++ A') G' H' → Stt K m G' H' σ e A' → Own K G' H' .s (.tuple ds) (some v) Av → (Av ++ A').Nodup → Q v H') :
    ∀ p, H p = none → Q (.ref p) (upd H p (.tup vs)) := fun p hp => by
  obtain ⟨s1, st1, sg⟩ := new_s (o := .tup vs) st hp
  have h' := h.mono sg
  exact k _ _ _ [] A s1 st1 (.s (.tup (SqT.of upd_same) h'.1 hz h'.2)) st1.nd
theorem ownA_of {G H : Hp} : ∀ {vs : List V} {ds : List PyData}, DqA K G vs ds → OwnA K G H (List.replicate ds.length .s) ds (vs.map some) []
  | [], [], _ => .nil
  | v :: vs, d :: ds, h => OwnA.cons (A := []) (.s h.head) (ownA_of h.tail)
  | [], _ :: _, h => by have := h.1; simp at this
  | _ :: _, [], h => by have := h.1; simp at this
theorem of_ownA {G H : Hp} : ∀ {n : Nat} {vs : List V} {ds : List PyData} {A : List Addr}, OwnA K G H (List.replicate n .s) ds (vs.map some) A → A = [] ∧ DqA K G vs ds
  | 0, [], _, _, h => by cases h; exact ⟨rfl, DqA.nil⟩
  | 0, _ :: _, _, _, h => by cases h
  | n + 1, [], _, _, h => by cases h
  | n + 1, v :: vs, _, _, h => by
    cases h with
    | cons h1 h2 =>
      obtain ⟨e2, q2⟩ := of_ownA (n := n) h2
      cases h1 with
      | s h1 => subst e2; exact ⟨rfl, DqA.cons h1 q2⟩
/-- an answer in a new list, owned -/
theorem ans_lst (st : Stt K m G H σ e A) {vs : List V} {ds : List PyData} (h : DqA K G vs ds) (hz : vs.length ≤ sizeLine) (k : ∀ (G' H' : Hp) (v : V) (Av A' : List Addr), Step A G H (Av ++ A') G' H' → Stt K m G' H' σ e A' → Own K G' H' (.l .s) (.list ds) (some v) Av → (Av ++ A').Nodup → Q v H') :
    ∀ p, H p = none → Q (.ref p) (upd H p (.lst vs)) := fun p hp => by
  obtain ⟨s1, st1, nd, gp⟩ := new_o (o := .lst vs) (B := []) st hp
  exact k _ _ _ [p] A s1 st1 (.l gp upd_same hz (ownA_of h)) nd
end

/-! ### the data's side of expressions -/
def eVar (j : Nat) : Ef := fun e => some (e.getD j .none, e)
def eC (d : PyData) : Ef := fun e => some (d, e)
def e1 (g : PyData → Option PyData) (a : Ef) : Ef := fun e => (a e).bind fun p => (g p.1).bind fun r => some (r, p.2)
def e2 (g : PyData → PyData → Option PyData) (a b : Ef) : Ef := fun e => (a e).bind fun p => (b p.2).bind fun q => (g p.1 q.1).bind fun r => some (r, q.2)

section
variable {ι : Type} {Xf : ι → Cx} {P : Program} {w : World} {K : PySem.W.Frag} {mg : Str → Option Value} {base : Heap} {n : Nat} [F : Fam Xf P w K mg base n]
variable {m m1 m2 m3 : List Ty} {pos p p2 : Pos} {a b c : Expr} {f g h : Ef}

theorem pd_var (j : Nat) {x : Str} (hm : m[j]? = some .s := by rfl) (hN : ∀ i, (Xf i).N[j]? = some x := by intro _; rfl)
    (hv : ∀ i, Vis (Xf i).env.scope x := by first | (intro _; exact Or.inl rfl) | (intro _; exact Or.inr (Or.inl rfl)) | (intro _; exact Or.inr (Or.inr rfl))) (hd : (x == ("__debug__" : Str)) = false := by decide)
    (hcd : (x == ("__classdict__" : Str)) = false := by decide) : PD Xf K m (.Name x pos) .s (eVar j) m := by
  refine ⟨tVar j, fun i => pe_var (hN i) (hv i) hd hcd, fun {G H σ e A d e' Q} st hf k => ?_⟩
  obtain ⟨d', v, h1, h2, h3⟩ := ownA_getS st.own hm
  cases hf
  rw [List.getD_eq_getElem?_getD, h1] at k
  exact ⟨v, h2, ans_s st h3 k⟩
/-- an owned slot, read for good: frozen from here on -/
theorem pd_frzVar (j : Nat) {t : Ty} {x : Str} (hm : m[j]? = some t := by rfl) (hn : nou t = true := by rfl) (hN : ∀ i, (Xf i).N[j]? = some x := by intro _; rfl)
    (hv : ∀ i, Vis (Xf i).env.scope x := by first | (intro _; exact Or.inl rfl) | (intro _; exact Or.inr (Or.inl rfl)) | (intro _; exact Or.inr (Or.inr rfl))) (hd : (x == ("__debug__" : Str)) = false := by decide)
    (hcd : (x == ("__classdict__" : Str)) = false := by decide) : PD Xf K m (.Name x pos) .s (eVar j) (m.set j .s) := by
  refine ⟨tVar j, fun i => pe_var (hN i) (hv i) hd hcd, fun {G H σ e A d e' Q} st hf k => ?_⟩
  obtain ⟨G', A', s0, st2⟩ := stt_frz st hm hn
  obtain ⟨d', v, h1, h2, h3⟩ := ownA_getS st2.own (j := j) (by have := (List.getElem?_eq_some_iff.mp hm).1; simp [this])
  cases hf
  rw [List.getD_eq_getElem?_getD, h1] at k
  exact ⟨v, h2, k _ _ v [] A' s0 st2 (.s h3) st2.nd⟩

theorem pd_int {i : Int} {j} : PD Xf K m (.Constant (.int i) j pos) .s (eC (.int i)) m := ⟨_, fun _ => pe_int, fun {G H σ e A d e' Q} st hf k => by cases hf; exact ans_s st (.int i) k⟩
theorem pd_bool {i : Bool} {j} : PD Xf K m (.Constant (.bool i) j pos) .s (eC (.bool i)) m := ⟨_, fun _ => pe_bl, fun {G H σ e A d e' Q} st hf k => by cases hf; exact ans_s st (.bl i) k⟩
theorem pd_none {j} : PD Xf K m (.Constant .none j pos) .s (eC .none) m := ⟨_, fun _ => pe_non, fun {G H σ e A d e' Q} st hf k => by cases hf; exact ans_s st .non k⟩
theorem pd_str {x : Str} {j} (hx : x.length ≤ sizeLine := by decide +kernel) : PD Xf K m (.Constant (.str x) j pos) .s (eC (.str x)) m := ⟨_, fun _ => pe_str, fun {G H σ e A d e' Q} st hf k => by cases hf; exact ans_s st (.str x hx) k⟩

theorem DE.bin {r : R2} {ta tb : TE} {ty : Ty} {gg : PyData → PyData → Option PyData} (ha : DE K m ta .s f m1) (hb : DE K m1 tb .s g m2) (hr : D2 K r ty gg) : DE K m (tOp r ta tb) ty (e2 gg f g) m2 := by
  intro G H σ e A d e' Q st hf k
  unfold e2 at hf
  obtain ⟨⟨d1, e1⟩, hf1, hf⟩ := Option.bind_eq_some_iff.mp hf
  obtain ⟨⟨d2, e2⟩, hf2, hf⟩ := Option.bind_eq_some_iff.mp hf
  obtain ⟨d3, hf3, hf⟩ := Option.bind_eq_some_iff.mp hf
  cases hf
  refine ha st hf1 fun G1 H1 v1 A1 B1 s1 st1 o1 nd1 => ?_
  cases o1 with
  | s q1 =>
    refine hb st1 hf2 fun G2 H2 v2 A2 B2 s2 st2 o2 nd2 => ?_
    cases o2 with
    | s q2 => exact hr st2 (q1.mono s2.sg) q2 hf3 fun G3 H3 v3 A3 B3 s3 st3 o3 nd3 => k G3 H3 v3 A3 B3 ((s1.seq0 s2).seq0 s3) st3 o3 nd3
theorem DE.un {r : V → Hp → VK → Prop} {ta : TE} {ty : Ty} {gg : PyData → Option PyData} (ha : DE K m ta .s f m1) (hr : D1 K r ty gg) : DE K m (fun σ H Q => ta σ H fun x H1 => r x H1 Q) ty (e1 gg f) m1 := by
  intro G H σ e A d e' Q st hf k
  unfold e1 at hf
  obtain ⟨⟨d1, e1⟩, hf1, hf⟩ := Option.bind_eq_some_iff.mp hf
  obtain ⟨d3, hf3, hf⟩ := Option.bind_eq_some_iff.mp hf
  cases hf
  refine ha st hf1 fun G1 H1 v1 A1 B1 s1 st1 o1 nd1 => ?_
  cases o1 with
  | s q1 => exact hr st1 q1 hf3 fun G3 H3 v3 A3 B3 s3 st3 o3 nd3 => k G3 H3 v3 A3 B3 (s1.seq0 s3) st3 o3 nd3
theorem pd_bin {op : Operator} {ty : Ty} {gg : PyData → PyData → Option PyData} (ho : Op2 Xf K (binaryOp op) ty gg) (ha : PD Xf K m a .s f m1) (hb : PD Xf K m1 b .s g m2) : PD Xf K m (.BinOp a op b pos) ty (e2 gg f g) m2 := by
  obtain ⟨r, hr, dr⟩ := ho.ex
  obtain ⟨ta, pa, da⟩ := ha.ex
  obtain ⟨tb, pb, db⟩ := hb.ex
  exact ⟨_, fun i => pe_op (hr i) (pa i) (pb i), DE.bin da db dr⟩
theorem pd_cmp {op : CmpOp} {ty : Ty} {gg : PyData → PyData → Option PyData} (ho : Op2 Xf K (compareOp op) ty gg) (ha : PD Xf K m a .s f m1) (hb : PD Xf K m1 b .s g m2) (hm : behindInMarks op b = false := by first | exact nomark _ | rfl) : PD Xf K m (.Compare a [op] [b] pos) ty (e2 gg f g) m2 := by
  obtain ⟨r, hr, dr⟩ := ho.ex
  obtain ⟨ta, pa, da⟩ := ha.ex
  obtain ⟨tb, pb, db⟩ := hb.ex
  exact ⟨_, fun i => pe_cmpR (hr i) (pa i) (pb i) hm, DE.bin da db dr⟩
theorem pd_ix {ty : Ty} {gg : PyData → PyData → Option PyData} (ho : Ix2 Xf K ty gg) (ha : PD Xf K m a .s f m1) (hb : PD Xf K m1 b .s g m2) (hs : PlainIx b := by exact fun _ _ => rfl) : PD Xf K m (.Subscript a b pos) ty (e2 gg f g) m2 := by
  obtain ⟨r, hr, dr⟩ := ho.ex
  obtain ⟨ta, pa, da⟩ := ha.ex
  obtain ⟨tb, pb, db⟩ := hb.ex
  exact ⟨_, fun i => pe_ix (hr i) (pa i) (pb i) hs, DE.bin da db dr⟩
/-- what is owned and new, taken as stable -/
theorem pd_frz {ty : Ty} (ha : PD Xf K m a ty f m1) (hn : nou ty = true := by rfl) : PD Xf K m a .s f m1 := by
  obtain ⟨ta, pa, da⟩ := ha.ex
  refine ⟨ta, pa, fun {G H σ e A d e' Q} st hf k => da st hf fun G1 H1 v1 A1 B1 s1 st1 o1 nd1 => ?_⟩
  obtain ⟨s2, st2, sg, hl⟩ := frz st1 (own_at o1) nd1
  obtain ⟨x, hx, q⟩ := own_frz o1 sg hl hn
  cases hx
  have s0 : Step A G H ([] ++ B1) (lay G1 H1 A1) H1 := s1.seq0 s2
  exact k _ _ v1 [] B1 s0 st2 (.s q) st2.nd
end
end DL

namespace DL
open PySem L2 PySem.Spec

section
variable {X : Cx} {pins : List (Addr × Obj)} {σ : St} {H : Hp} {s : Shared}
theorem rdL (I : Inv X pins σ H s) {a : Addr} {xs : List V} (h : Rd H a (.lst xs)) : xs.length ≤ sizeLine ∧ ∃ (its : List Value) (n : Nat), Vals xs its ∧ s.heap.get? a = some { cls := .type "list", data := .seq its.toArray n } := h.ok I.hok
theorem readsAll_of {P : V → PyData → Prop} (hp : ∀ v d u, P v d → RelV v u → ∃ as, Reads s.heap u d as) : ∀ {xs : List V} {ds : List PyData} {us : List Value}, xs.length = ds.length → (∀ (i : Nat) v d, xs[i]? = some v → ds[i]? = some d → P v d) → Vals xs us → ∃ as, ReadsAll s.heap us ds as
  | [], [], _, _, _, .nil => ⟨_, .nil⟩
  | v :: vs, d :: ds, _, hl, h, .cons r rs => by
    obtain ⟨as, q⟩ := hp v d _ (h 0 v d rfl rfl) r
    obtain ⟨bs, qs⟩ := readsAll_of hp (xs := vs) (ds := ds) (by simpa using hl) (fun i v d a b => h (i + 1) v d (by simpa using a) (by simpa using b)) rs
    exact ⟨_, .cons q qs⟩
  | [], _ :: _, _, hl, _, _ => by simp at hl
  | _ :: _, [], _, hl, _, _ => by simp at hl
theorem Dq.reads (I : Inv X pins σ H s) {v : V} {d : PyData} (h : Dq X.K H v d) : ∀ {u : Value}, RelV v u → ∃ as, Reads s.heap u d as := by
  induction h with
  | non => intro u r; cases r; exact ⟨_, .none⟩
  | bl b => intro u r; cases r; exact ⟨_, .bool b⟩
  | int i => intro u r; obtain ⟨t, rfl⟩ := r; exact ⟨_, .int i t⟩
  | str x _ => intro u r; obtain ⟨t, rfl⟩ := r; exact ⟨_, .str x t⟩
  | lst hs hl hz _ ih =>
    intro u r
    cases r
    obtain ⟨_, its, n, rv, ho⟩ := rdL I hs
    obtain ⟨as, q⟩ := readsAll_of (P := fun v d => ∀ {u : Value}, RelV v u → ∃ as, Reads s.heap u d as) (fun v d u h r => h r) hl (fun i v d a b => ih i v d a b) rv
    exact ⟨_, Reads.list ho rfl rfl q⟩
  | tup hs hl hz _ ih =>
    intro u r
    cases r
    obtain ⟨its, rv, ⟨o, ho, hc, n, hd⟩, _⟩ := I.tuple hs
    obtain ⟨as, q⟩ := readsAll_of (P := fun v d => ∀ {u : Value}, RelV v u → ∃ as, Reads s.heap u d as) (fun v d u h r => h r) hl (fun i v d a b => ih i v d a b) rv
    exact ⟨_, Reads.tuple ho hc hd q⟩
theorem DqA.reads (I : Inv X pins σ H s) {xs : List V} {ds : List PyData} (h : DqA X.K H xs ds) {us : List Value} (r : Vals xs us) : ∃ as, ReadsAll s.heap us ds as :=
  readsAll_of (P := fun v d => Dq X.K H v d) (fun v d u h r => h.reads I r) h.1 h.2 r
theorem all_plain {K : PySem.W.Frag} {G : Hp} {ds : List PyData} (h : ∀ d ∈ ds, d.plain = true) : PyData.plainAll ds = true := by
  induction ds with
  | nil => rfl
  | cons d ds ih =>
    unfold PyData.plainAll
    rw [h d (List.mem_cons_self ..), ih fun x hx => h x (List.mem_cons_of_mem _ hx)]; rfl
theorem dq_mem {K : PySem.W.Frag} {G : Hp} {xs : List V} {ds : List PyData} (h : DqA K G xs ds) {d : PyData} (hd : d ∈ ds) : ∃ v, Dq K G v d := by
  obtain ⟨i, hi⟩ := List.mem_iff_getElem?.mp hd
  obtain ⟨v, _, q⟩ := h.get hi
  exact ⟨v, q⟩
theorem Dq.plain {K : PySem.W.Frag} {G : Hp} {v : V} {d : PyData} (h : Dq K G v d) : d.plain = true := by
  induction h with
  | non => rfl
  | bl => rfl
  | int => rfl
  | str => rfl
  | @lst a xs ds hs hl hz hq ih =>
    unfold PyData.plain
    refine all_plain (K := K) (G := G) fun d hd => ?_
    obtain ⟨i, hi⟩ := List.mem_iff_getElem?.mp hd
    obtain ⟨v, hv, _⟩ := (show DqA K G xs ds from ⟨hl, hq⟩).get hi
    exact ih i v d hv hi
  | @tup a xs ds hs hl hz hq ih =>
    unfold PyData.plain
    refine all_plain (K := K) (G := G) fun d hd => ?_
    obtain ⟨i, hi⟩ := List.mem_iff_getElem?.mp hd
    obtain ⟨v, hv, _⟩ := (show DqA K G xs ds from ⟨hl, hq⟩).get hi
    exact ih i v d hv hi
theorem DqA.plain {K : PySem.W.Frag} {G : Hp} {xs : List V} {ds : List PyData} (h : DqA K G xs ds) : PyData.plainAll ds = true := all_plain (K := K) (G := G) fun d hd => (dq_mem h hd).choose_spec.plain
theorem fits_of {K : PySem.W.Frag} {G : Hp} {v : V} {d : PyData} (h : Dq K G v d) : d.fits63 := by
  cases h with
  | non => trivial
  | bl => trivial
  | int => trivial
  | str x hx => have : sizeLine < 2 ^ 63 := by decide
                simp only [PyData.fits63]; omega
  | lst _ hl hz _ => have : sizeLine < 2 ^ 63 := by decide
                     simp only [PyData.fits63]; omega
  | tup _ hl hz _ => have : sizeLine < 2 ^ 63 := by decide
                     simp only [PyData.fits63]; omega
end

/-! ### two stable values in, a scalar out -/
/-- a scalar as a value -/
def scV : PyData → Option V
  | .none => some .non
  | .bool b => some (.bl b)
  | .int i => some (.int i)
  | _ => none
theorem scV_dq {K : PySem.W.Frag} {G : Hp} {d : PyData} {v : V} (h : scV d = some v) : Dq K G v d := by
  cases d with
  | none => cases h; exact .non
  | bool b => cases h; exact .bl b
  | int i => cases h; exact .int i
  | _ => cases h
def r2S (K : PySem.W.Frag) (g : PyData → PyData → Option PyData) : R2 := fun x y H Q => ∃ dx dy d v, Dq K H x dx ∧ Dq K H y dy ∧ g dx dy = some d ∧ scV d = some v ∧ Q v H
def r1S (K : PySem.W.Frag) (g : PyData → Option PyData) : V → Hp → VK → Prop := fun x H Q => ∃ dx d v, Dq K H x dx ∧ g dx = some d ∧ scV d = some v ∧ Q v H
theorem d2S {K : PySem.W.Frag} {g : PyData → PyData → Option PyData} (hg : ∀ a b d, g a b = some d → ∃ v, scV d = some v) : D2 K (r2S K g) .s g := fun st hx hy e k => by
  obtain ⟨v, hv⟩ := hg _ _ _ e
  exact ⟨_, _, _, v, hx.mono st.sub, hy.mono st.sub, e, hv, ans_s st (scV_dq hv) k⟩
theorem d1S {K : PySem.W.Frag} {g : PyData → Option PyData} (hg : ∀ a d, g a = some d → ∃ v, scV d = some v) : D1 K (r1S K g) .s g := fun st hx e k => by
  obtain ⟨v, hv⟩ := hg _ _ e
  exact ⟨_, _, v, hx.mono st.sub, e, hv, ans_s st (scV_dq hv) k⟩

def dep (a b : PyData) : Bool := decide (min a.depth b.depth ≤ 60)
def gEq (a b : PyData) : Option PyData := if dep a b = true then some (.bool (PyData.eqv a b)) else none
def gNe (a b : PyData) : Option PyData := if dep a b = true then some (.bool (!PyData.eqv a b)) else none
def cmpOk (a b : PyData) : Bool := PySem.W.alike a b && (match a with | .none => false | _ => true) && dep a b
def gLt : PyData → PyData → Option PyData
  | .int i, .int j => some (.bool (decide (i < j)))
  | a, b => if cmpOk a b = true then some (.bool (PySem.W.dataLt a b)) else none
def gGt : PyData → PyData → Option PyData
  | .int i, .int j => some (.bool (decide (j < i)))
  | a, b => if cmpOk a b = true then some (.bool (PySem.W.dataLt b a)) else none
def gLe : PyData → PyData → Option PyData
  | .int i, .int j => some (.bool (decide (i ≤ j)))
  | a, b => if cmpOk a b = true then some (.bool (!PySem.W.dataLt b a)) else none
def gGe : PyData → PyData → Option PyData
  | .int i, .int j => some (.bool (decide (j ≤ i)))
  | a, b => if cmpOk a b = true then some (.bool (!PySem.W.dataLt a b)) else none
def gIs : PyData → PyData → Option PyData
  | .none, .none => some (.bool true)
  | _, .none => some (.bool false)
  | _, _ => none
def gIsNot : PyData → PyData → Option PyData
  | .none, .none => some (.bool false)
  | _, .none => some (.bool true)
  | _, _ => none
def gIn (x : PyData) : PyData → Option PyData
  | .list ys => if decide (min (PyData.depthAll ys) x.depth ≤ 60) = true then some (.bool (ys.any fun y => PyData.eqv y x)) else none
  | .tuple ys => if decide (min (PyData.depthAll ys) x.depth ≤ 60) = true then some (.bool (ys.any fun y => PyData.eqv y x)) else none
  | _ => none
def gNotIn (x : PyData) : PyData → Option PyData
  | .list ys => if decide (min (PyData.depthAll ys) x.depth ≤ 60) = true then some (.bool (!ys.any fun y => PyData.eqv y x)) else none
  | .tuple ys => if decide (min (PyData.depthAll ys) x.depth ≤ 60) = true then some (.bool (!ys.any fun y => PyData.eqv y x)) else none
  | _ => none

theorem hu60 {A : Around} {k n : Nat} (hr : Room n A) (h : k ≤ 60) : A.units + 1 + k < cLine := by have := hr.un; omega
theorem ite_some {α : Type} {c : Prop} [Decidable c] {a b : α} (h : (if c then some a else none) = some b) : c ∧ a = b := by
  split at h
  · rename_i hc; exact ⟨hc, Option.some.inj h⟩
  · cases h
theorem RelV.sc {d : PyData} {v : V} (h : scV d = some v) : True := trivial
theorem boolE {X : Cx} {pins : List (Addr × Obj)} {σ : St} {H : Hp} {s : Shared} {Q : VK} (I : Inv X pins σ H s) {b : Bool} {v : V} (h : scV (.bool b) = some v) (q : Q v H) : EP X pins σ Q (.bool b) s := by
  cases h
  exact ⟨.bl b, H, I, rfl, q⟩
theorem intE {X : Cx} {pins : List (Addr × Obj)} {σ : St} {H : Hp} {s : Shared} {Q : VK} (I : Inv X pins σ H s) {b : Int} {t : Tok} {v : V} (h : scV (.int b) = some v) (q : Q v H) : EP X pins σ Q (.int b t) s := by
  cases h
  exact ⟨.int b, H, I, ⟨_, rfl⟩, q⟩


theorem cmp_ok {a b : PyData} (h : cmpOk a b = true) : PySem.W.alike a b = true ∧ a ≠ .none ∧ min a.depth b.depth ≤ 60 := by
  unfold cmpOk at h
  simp only [Bool.and_eq_true] at h
  refine ⟨h.1.1, fun e => ?_, of_decide_eq_true h.2⟩
  subst e
  have := h.1.2
  simp at this

theorem depth_le {xs : List PyData} {d : PyData} (h : decide (min (PyData.depthAll xs) d.depth ≤ 60) = true) : min (PyData.depthAll xs) d.depth ≤ 60 := of_decide_eq_true h

section
variable {ι : Type} {Xf : ι → Cx} {P : Program} {w : World} {K : PySem.W.Frag} {mg : Str → Option Value} {base : Heap} {n : Nat} [F : Fam Xf P w K mg base n]
include F
theorem op_eqG' (i : ι) : OpR (Xf i) (compareOp .Eq) (r2S K gEq) := by
  intro pins s σ H x y v u Q I rx ry h
  obtain ⟨dx, dy, d, z, hx, hy, e, hz, q⟩ := h
  rw [← F.kk i] at hx hy
  obtain ⟨as, r1⟩ := hx.reads I rx
  obtain ⟨bs, r2⟩ := hy.reads I ry
  obtain ⟨hd, rfl⟩ := ite_some e
  exact PySem.SeqAt.eq_plain r1 r2 hx.plain hy.plain (by have := hu60 (F.room i) (of_decide_eq_true hd); omega) (boolE I hz q)
theorem op_neG' (i : ι) : OpR (Xf i) (compareOp .NotEq) (r2S K gNe) := by
  intro pins s σ H x y v u Q I rx ry h
  obtain ⟨dx, dy, d, z, hx, hy, e, hz, q⟩ := h
  rw [← F.kk i] at hx hy
  obtain ⟨as, r1⟩ := hx.reads I rx
  obtain ⟨bs, r2⟩ := hy.reads I ry
  obtain ⟨hd, rfl⟩ := ite_some e
  exact PySem.SeqAt.ne_plain r1 r2 hx.plain hy.plain (by have := hu60 (F.room i) (of_decide_eq_true hd); omega) (boolE I hz q)
theorem op_ltG' (i : ι) : OpR (Xf i) (compareOp .Lt) (r2S K gLt) := by
  intro pins s σ H x y v u Q I rx ry h
  obtain ⟨dx, dy, d, z, hx, hy, e, hz, q⟩ := h
  rw [← F.kk i] at hx hy
  obtain ⟨as, r1⟩ := hx.reads I rx
  obtain ⟨bs, r2⟩ := hy.reads I ry
  unfold gLt at e
  split at e
  · cases e
    exact PySem.W.lt_data r1 r2 rfl (fun z => nomatch z) (by have := hu60 (F.room i) (k := 0) (by omega); simp only [PyData.depth]; omega) (by rw [PySem.W.dataLt_int]; exact boolE I hz q)
  · obtain ⟨hd, rfl⟩ := ite_some e
    obtain ⟨h1, h2, h3⟩ := cmp_ok hd
    exact PySem.W.lt_data r1 r2 h1 h2 (by have := hu60 (F.room i) h3; omega) (boolE I hz q)
theorem op_gtG' (i : ι) : OpR (Xf i) (compareOp .Gt) (r2S K gGt) := by
  intro pins s σ H x y v u Q I rx ry h
  obtain ⟨dx, dy, d, z, hx, hy, e, hz, q⟩ := h
  rw [← F.kk i] at hx hy
  obtain ⟨as, r1⟩ := hx.reads I rx
  obtain ⟨bs, r2⟩ := hy.reads I ry
  unfold gGt at e
  split at e
  · cases e
    exact PySem.W.gt_data r1 r2 rfl (fun z => nomatch z) (by have := hu60 (F.room i) (k := 0) (by omega); simp only [PyData.depth]; omega) (by rw [PySem.W.dataLt_int]; exact boolE I hz q)
  · obtain ⟨hd, rfl⟩ := ite_some e
    obtain ⟨h1, h2, h3⟩ := cmp_ok hd
    exact PySem.W.gt_data r1 r2 h1 h2 (by have := hu60 (F.room i) h3; omega) (boolE I hz q)
theorem op_leG' (i : ι) : OpR (Xf i) (compareOp .LtE) (r2S K gLe) := by
  intro pins s σ H x y v u Q I rx ry h
  obtain ⟨dx, dy, d, z, hx, hy, e, hz, q⟩ := h
  rw [← F.kk i] at hx hy
  obtain ⟨as, r1⟩ := hx.reads I rx
  obtain ⟨bs, r2⟩ := hy.reads I ry
  unfold gLe at e
  split at e
  · cases e
    exact PySem.W.le_data r1 r2 rfl (fun z => nomatch z) (by have := hu60 (F.room i) (k := 0) (by omega); simp only [PyData.depth]; omega) (by rw [PySem.W.dataLt_int, PySem.W.not_lt_int]; exact boolE I hz q)
  · obtain ⟨hd, rfl⟩ := ite_some e
    obtain ⟨h1, h2, h3⟩ := cmp_ok hd
    exact PySem.W.le_data r1 r2 h1 h2 (by have := hu60 (F.room i) h3; omega) (boolE I hz q)
theorem op_geG' (i : ι) : OpR (Xf i) (compareOp .GtE) (r2S K gGe) := by
  intro pins s σ H x y v u Q I rx ry h
  obtain ⟨dx, dy, d, z, hx, hy, e, hz, q⟩ := h
  rw [← F.kk i] at hx hy
  obtain ⟨as, r1⟩ := hx.reads I rx
  obtain ⟨bs, r2⟩ := hy.reads I ry
  unfold gGe at e
  split at e
  · cases e
    exact PySem.W.ge_data r1 r2 rfl (fun z => nomatch z) (by have := hu60 (F.room i) (k := 0) (by omega); simp only [PyData.depth]; omega) (by rw [PySem.W.dataLt_int, PySem.W.not_lt_int]; exact boolE I hz q)
  · obtain ⟨hd, rfl⟩ := ite_some e
    obtain ⟨h1, h2, h3⟩ := cmp_ok hd
    exact PySem.W.ge_data r1 r2 h1 h2 (by have := hu60 (F.room i) h3; omega) (boolE I hz q)
theorem op_inG' (i : ι) : OpR (Xf i) (compareOp .In) (r2S K gIn) := by
  intro pins s σ H x y v u Q I rx ry h
  obtain ⟨dx, dy, d, z, hx, hy, e, hz, q⟩ := h
  rw [← F.kk i] at hx hy
  obtain ⟨as, r1⟩ := hx.reads I rx
  obtain ⟨bs, r2⟩ := hy.reads I ry
  have hp := hy.plain
  unfold gIn at e
  split at e
  · obtain ⟨hd, rfl⟩ := ite_some e
    exact PySem.SeqAt.in_list_data r2 r1 (by simpa [PyData.plain] using hp) hx.plain (hu60 (F.room i) (depth_le hd)) (boolE I hz q)
  · obtain ⟨hd, rfl⟩ := ite_some e
    exact PySem.SeqAt.in_tuple_data r2 r1 (by simpa [PyData.plain] using hp) hx.plain (hu60 (F.room i) (depth_le hd)) (boolE I hz q)
  · cases e
theorem op_notInG' (i : ι) : OpR (Xf i) (compareOp .NotIn) (r2S K gNotIn) := by
  intro pins s σ H x y v u Q I rx ry h
  obtain ⟨dx, dy, d, z, hx, hy, e, hz, q⟩ := h
  rw [← F.kk i] at hx hy
  obtain ⟨as, r1⟩ := hx.reads I rx
  obtain ⟨bs, r2⟩ := hy.reads I ry
  have hp := hy.plain
  unfold gNotIn at e
  split at e
  · obtain ⟨hd, rfl⟩ := ite_some e
    exact PySem.SeqAt.notIn_list_data r2 r1 (by simpa [PyData.plain] using hp) hx.plain (hu60 (F.room i) (depth_le hd)) (boolE I hz q)
  · obtain ⟨hd, rfl⟩ := ite_some e
    exact PySem.SeqAt.notIn_tuple_data r2 r1 (by simpa [PyData.plain] using hp) hx.plain (hu60 (F.room i) (depth_le hd)) (boolE I hz q)
  · cases e
theorem op_isG' (i : ι) : OpR (Xf i) (compareOp .Is) (r2S K gIs) := by
  intro pins s σ H x y v u Q I rx ry h
  obtain ⟨dx, dy, d, z, hx, hy, e, hz, q⟩ := h
  have hd : y = .non ∧ z = .bl (decide (x = .non)) := by
    cases hx <;> cases hy <;> (first | (simp only [gIs] at e; cases e; cases hz; exact ⟨rfl, by simp⟩) | cases e)
  obtain ⟨rfl, rfl⟩ := hd
  exact op_isN pins s σ H x _ v u Q I rx ry ⟨rfl, q⟩
theorem op_isNotG' (i : ι) : OpR (Xf i) (compareOp .IsNot) (r2S K gIsNot) := by
  intro pins s σ H x y v u Q I rx ry h
  obtain ⟨dx, dy, d, z, hx, hy, e, hz, q⟩ := h
  have hd : y = .non ∧ z = .bl (!decide (x = .non)) := by
    cases hx <;> cases hy <;> (first | (simp only [gIsNot] at e; cases e; cases hz; exact ⟨rfl, by simp⟩) | cases e)
  obtain ⟨rfl, rfl⟩ := hd
  exact op_notN pins s σ H x _ v u Q I rx ry ⟨rfl, q⟩

theorem opEq : Op2 Xf K (compareOp .Eq) .s gEq := ⟨_, op_eqG', d2S fun a b d e => by obtain ⟨_, rfl⟩ := ite_some e; exact ⟨_, rfl⟩⟩
theorem opNe : Op2 Xf K (compareOp .NotEq) .s gNe := ⟨_, op_neG', d2S fun a b d e => by obtain ⟨_, rfl⟩ := ite_some e; exact ⟨_, rfl⟩⟩
theorem opLt : Op2 Xf K (compareOp .Lt) .s gLt := ⟨_, op_ltG', d2S fun a b d e => by
  unfold gLt at e; split at e
  · cases e; exact ⟨_, rfl⟩
  · obtain ⟨_, rfl⟩ := ite_some e; exact ⟨_, rfl⟩⟩
theorem opGt : Op2 Xf K (compareOp .Gt) .s gGt := ⟨_, op_gtG', d2S fun a b d e => by
  unfold gGt at e; split at e
  · cases e; exact ⟨_, rfl⟩
  · obtain ⟨_, rfl⟩ := ite_some e; exact ⟨_, rfl⟩⟩
theorem opLe : Op2 Xf K (compareOp .LtE) .s gLe := ⟨_, op_leG', d2S fun a b d e => by
  unfold gLe at e; split at e
  · cases e; exact ⟨_, rfl⟩
  · obtain ⟨_, rfl⟩ := ite_some e; exact ⟨_, rfl⟩⟩
theorem opGe : Op2 Xf K (compareOp .GtE) .s gGe := ⟨_, op_geG', d2S fun a b d e => by
  unfold gGe at e; split at e
  · cases e; exact ⟨_, rfl⟩
  · obtain ⟨_, rfl⟩ := ite_some e; exact ⟨_, rfl⟩⟩
theorem opIs : Op2 Xf K (compareOp .Is) .s gIs := ⟨_, op_isG', d2S fun a b d e => by
  unfold gIs at e; split at e <;> cases e <;> exact ⟨_, rfl⟩⟩
theorem opIsNot : Op2 Xf K (compareOp .IsNot) .s gIsNot := ⟨_, op_isNotG', d2S fun a b d e => by
  unfold gIsNot at e; split at e <;> cases e <;> exact ⟨_, rfl⟩⟩
theorem opIn : Op2 Xf K (compareOp .In) .s gIn := ⟨_, op_inG', d2S fun a b d e => by
  unfold gIn at e; split at e
  · obtain ⟨_, rfl⟩ := ite_some e; exact ⟨_, rfl⟩
  · obtain ⟨_, rfl⟩ := ite_some e; exact ⟨_, rfl⟩
  · cases e⟩
theorem opNotIn : Op2 Xf K (compareOp .NotIn) .s gNotIn := ⟨_, op_notInG', d2S fun a b d e => by
  unfold gNotIn at e; split at e
  · obtain ⟨_, rfl⟩ := ite_some e; exact ⟨_, rfl⟩
  · obtain ⟨_, rfl⟩ := ite_some e; exact ⟨_, rfl⟩
  · cases e⟩
end
end DL

namespace DL
open PySem L2 PySem.Spec

/-! ### arithmetic -/
def rCatR : R2 := fun x y H Q => ∃ l b xs zs, x = .ref l ∧ y = .ref b ∧ Rd H l (.lst xs) ∧ Rd H b (.lst zs) ∧ xs.length + zs.length ≤ sizeLine ∧ ∀ p, H p = none → Q (.ref p) (upd H p (.lst (xs ++ zs)))
theorem op_catR {X : Cx} : OpR X (binaryOp .Add) rCatR := by
  intro pins s σ H x y v u Q I rx ry h
  obtain ⟨l, b, xs, zs, rfl, rfl, hH, hB, hz, q⟩ := h
  cases rx
  cases ry
  obtain ⟨z, its, n, r, e⟩ := rdL I hH
  obtain ⟨z2, its2, n2, r2, e2⟩ := rdL I hB
  have hl := r.length
  have hl2 := r2.length
  refine PySem.P.add_list e e2 ?_ (by rw [List.size_toArray, List.size_toArray]; omega)
  have ea : its.toArray ++ its2.toArray = (its ++ its2).toArray := by simp
  rw [ea]
  exact ⟨.ref _, _, I.lnew (t' := s.toks) (r.append r2) (by rw [List.length_append]; omega), rfl, q _ I.fresh⟩
def rRepR : R2 := fun x y H Q => ∃ l k xs, x = .ref l ∧ y = .int k ∧ Rd H l (.lst xs) ∧ -(2 ^ 63) ≤ k ∧ k < 2 ^ 63 ∧ xs.length * k.toNat ≤ sizeLine ∧
  ∀ p, H p = none → Q (.ref p) (upd H p (.lst (List.replicate k.toNat xs).flatten))
theorem op_repR {X : Cx} : OpR X (binaryOp .Mult) rRepR := by
  intro pins s σ H x y v u Q I rx ry h
  obtain ⟨l, k, xs, rfl, rfl, hH, h1, h2, hz, q⟩ := h
  cases rx
  obtain ⟨t, rfl⟩ := ry
  obtain ⟨z, its, n, r, e⟩ := rdL I hH
  have hl := r.length
  have hlen : its.toArray.size * k.toNat ≤ sizeLine := by rw [List.size_toArray, ← hl]; exact hz
  have hcap : ¬ its.toArray.size * k.toNat > (2 ^ 63 - 1) / 8 := by
    have : (sizeLine : Nat) ≤ (2 ^ 63 - 1) / 8 := by decide
    omega
  have hfit : ¬ (!Builtin.List.listFitsIndex k) = true := by
    rw [fitsIndex_both h1 h2]
    exact Bool.false_ne_true
  have hlong : ¬ Builtin.List.listTooLong (its.toArray.size * k.toNat) = true := by
    rw [notLongL hlen]
    exact Bool.false_ne_true
  have hnew : List.foldl (fun x1 x2 => x1 ++ x2) #[] (List.replicate (if its.toArray.isEmpty = true then 0 else k.toNat) its.toArray) = (List.replicate k.toNat its).flatten.toArray := by
    have f0 : ∀ m : Nat, List.foldl (fun x1 x2 => x1 ++ x2) #[] (List.replicate m its.toArray) = (List.replicate m its).flatten.toArray := fun m => by
      have := foldl_rep its m []
      rw [List.nil_append] at this
      exact this
    rw [f0]
    cases its with
    | nil => simp
    | cons a r' => simp
  refine wpAny_binaryOp_repeat_ref (T := "list") (U := "int") (by decide) ⟨_, e, rfl⟩ (fun s' => typeIs_int s' k t) noFill_list_mul F.fills_int_mul F.slot_int_rmul repeat_list F.slot_int_index.lookup
    (call_meets F.slot_int_rmul (typeIs_int s k t) F.entry_int_rmul (F.args_int_rmul_2 _ _) (int___rmul___int_list k t l its.toArray n)
      ⟨e, rfl, ⟨_, e, rfl⟩, call_meets F.slot_list_mul ⟨_, e, rfl⟩ F.entry_list_mul (F.args_list_mul_2 _ _) (AutoListH.list___mul___list_int_3 l its.toArray n k t hfit hcap hlong) ⟨e, ?_⟩⟩)
  rw [hnew]
  exact ⟨.ref _, _, I.lnew (t' := s.toks) (r.rep k.toNat) (by rw [PyProof.Rows.lm_len_rep_flat, Nat.mul_comm]; exact hz), rfl, q _ I.fresh⟩

def gAdd : PyData → PyData → Option PyData
  | .int i, .int j => some (.int (i + j))
  | .str i, .str j => if i.length + j.length ≤ sizeLine then some (.str (i ++ j)) else none
  | .tuple a, .tuple b => if a.length + b.length ≤ sizeLine then some (.tuple (a ++ b)) else none
  | .list a, .list b => if a.length + b.length ≤ sizeLine then some (.list (a ++ b)) else none
  | _, _ => none
def gAddL : PyData → PyData → Option PyData
  | .list a, .list b => if a.length + b.length ≤ sizeLine then some (.list (a ++ b)) else none
  | _, _ => none
def gSub : PyData → PyData → Option PyData
  | .int i, .int j => some (.int (i - j))
  | _, _ => none
def mulOk (i j : Int) : Bool := decide (i.natAbs < 2 ^ 64) || decide (j.natAbs < 2 ^ 64)
def gMul : PyData → PyData → Option PyData
  | .int i, .int j => if mulOk i j = true then some (.int (i * j)) else none
  | .list xs, .int k => if -(2 ^ 63) ≤ k ∧ k < 2 ^ 63 ∧ xs.length * k.toNat ≤ sizeLine then some (.list (List.replicate k.toNat xs).flatten) else none
  | .tuple xs, .int k => if xs ≠ [] ∧ 2 ≤ k ∧ k ≤ 1000 ∧ xs.length ≤ 1000 then some (.tuple (List.replicate k.toNat xs).flatten) else none
  | _, _ => none
def gMulL : PyData → PyData → Option PyData
  | .list xs, .int k => if -(2 ^ 63) ≤ k ∧ k < 2 ^ 63 ∧ xs.length * k.toNat ≤ sizeLine then some (.list (List.replicate k.toNat xs).flatten) else none
  | _, _ => none
def gFdiv : PyData → PyData → Option PyData
  | .int i, .int j => if 0 < j ∧ j < 1073741824 then some (.int (i / j)) else none
  | _, _ => none
def gMod : PyData → PyData → Option PyData
  | .int i, .int j => if 0 < j then some (.int (i % j)) else none
  | _, _ => none
def gPow : PyData → PyData → Option PyData
  | .int i, .int j => if 0 ≤ j ∧ j ≤ 1000000 ∧ i.natAbs < 2 ^ 64 then some (.int (i ^ j.toNat)) else none
  | _, _ => none
def gNeg : PyData → Option PyData
  | .int i => some (.int (-i))
  | _ => none

section
variable {K : PySem.W.Frag} {G H : Hp} {m : List Ty} {σ : St} {e : En} {A : List Addr} {d : PyData} {Q : VK}
theorem dq_lst {G : Hp} {x : V} {ds : List PyData} (h : Dq K G x (.list ds)) : ∃ a xs, x = .ref a ∧ Rd G a (.lst xs) ∧ xs.length ≤ sizeLine ∧ DqA K G xs ds := by
  cases h with
  | lst h1 h2 h3 h4 => exact ⟨_, _, rfl, h1, h3, h2, h4⟩
theorem dq_tup {G : Hp} {x : V} {ds : List PyData} (h : Dq K G x (.tuple ds)) : ∃ a xs, x = .ref a ∧ SqT K G a xs ∧ xs.length ≤ sizeLine ∧ DqA K G xs ds := by
  cases h with
  | tup h1 h2 h3 h4 => exact ⟨_, _, rfl, h1, h3, h2, h4⟩
theorem dq_int {G : Hp} {x : V} {i : Int} (h : Dq K G x (.int i)) : x = .int i := by cases h; rfl
theorem dq_bool {G : Hp} {x : V} {i : Bool} (h : Dq K G x (.bool i)) : x = .bl i := by cases h; rfl
theorem dq_str {G : Hp} {x : V} {i : Str} (h : Dq K G x (.str i)) : x = .str i ∧ i.length ≤ sizeLine := by cases h; exact ⟨rfl, by assumption⟩
theorem DqA.flat {G : Hp} {xs : List V} {ds : List PyData} (h : DqA K G xs ds) : ∀ k : Nat, DqA K G (List.replicate k xs).flatten (List.replicate k ds).flatten
  | 0 => DqA.nil
  | k + 1 => by rw [List.replicate_succ, List.replicate_succ, List.flatten_cons, List.flatten_cons]; exact h.append (DqA.flat h k)
/-- an owned answer, frozen -/
theorem kfrz {ty : Ty} (hn : nou ty = true) (k : ∀ (G' H' : Hp) (v : V) (Av A' : List Addr), Step A G H (Av ++ A') G' H' → Stt K m G' H' σ e A' → Own K G' H' .s d (some v) Av → (Av ++ A').Nodup → Q v H') :
    ∀ (G' H' : Hp) (v : V) (Av A' : List Addr), Step A G H (Av ++ A') G' H' → Stt K m G' H' σ e A' → Own K G' H' ty d (some v) Av → (Av ++ A').Nodup → Q v H' := fun G1 H1 v1 A1 B1 s1 st1 o1 nd1 => by
  obtain ⟨s2, st2, sg, hl⟩ := frz st1 (own_at o1) nd1
  obtain ⟨x, hx, q⟩ := own_frz o1 sg hl hn
  cases hx
  have s0 : Step A G H ([] ++ B1) (lay G1 H1 A1) H1 := s1.seq0 s2
  exact k _ _ v1 [] B1 s0 st2 (.s q) st2.nd
theorem d2_catL : D2 K rCatR (.l .s) gAddL := fun {m G H σ e A x y dx dy d Q} st hx hy ee k => by
  unfold gAddL at ee
  split at ee
  · obtain ⟨hz, rfl⟩ := ite_some ee
    obtain ⟨a, xs, rfl, r1, z1, q1⟩ := dq_lst hx
    obtain ⟨b, ys, rfl, r2, z2, q2⟩ := dq_lst hy
    have l1 := q1.1
    have l2 := q2.1
    exact ⟨a, b, xs, ys, rfl, rfl, same_rd st.sub r1, same_rd st.sub r2, by omega, ans_lst st (q1.append q2) (by rw [List.length_append]; omega) k⟩
  · cases ee
theorem d2_repL : D2 K rRepR (.l .s) gMulL := fun {m G H σ e A x y dx dy d Q} st hx hy ee k => by
  unfold gMulL at ee
  split at ee
  · obtain ⟨hz, rfl⟩ := ite_some ee
    obtain ⟨a, xs, rfl, r1, z1, q1⟩ := dq_lst hx
    obtain rfl := dq_int hy
    have l1 := q1.1
    exact ⟨a, _, xs, rfl, rfl, same_rd st.sub r1, hz.1, hz.2.1, by rw [l1]; exact hz.2.2, ans_lst st (q1.flat _) (by rw [PyProof.Rows.lm_len_rep_flat, l1, Nat.mul_comm]; exact hz.2.2) k⟩
  · cases ee
end

section
variable {ι : Type} {Xf : ι → Cx} {P : Program} {w : World} {K : PySem.W.Frag} {mg : Str → Option Value} {base : Heap} {n : Nat} [F : Fam Xf P w K mg base n]
include F
theorem kkR {r : PySem.W.Frag → R2} {f : Value → Value → Sem Value} (h : ∀ X : Cx, OpR X f (r X.K)) (i : ι) : OpR (Xf i) f (r K) := by
  have := h (Xf i)
  rw [F.kk i] at this
  exact this
theorem opAdd : Op2 Xf K (binaryOp .Add) .s gAdd := by
  refine ⟨_, fun i => OpR.or (op_add) (OpR.or op_add_str (OpR.or (kkR (fun X => op_catA) i) op_catR)), fun {m G H σ e A x y dx dy d Q} st hx hy ee k => ?_⟩
  unfold gAdd at ee
  split at ee
  · cases ee
    obtain rfl := dq_int hx
    obtain rfl := dq_int hy
    exact .inl ⟨_, _, rfl, rfl, ans_s st (.int _) k⟩
  · obtain ⟨hz, rfl⟩ := ite_some ee
    obtain ⟨rfl, z1⟩ := dq_str hx
    obtain ⟨rfl, z2⟩ := dq_str hy
    refine .inr (.inl ⟨_, _, rfl, rfl, hz, ans_s st (.str _ ?_) k⟩)
    rename_i i j
    show (i.cps ++ j.cps).size ≤ _
    rw [Array.size_append]; exact hz
  · obtain ⟨hz, rfl⟩ := ite_some ee
    obtain ⟨a, xs, rfl, r1, z1, q1⟩ := dq_tup hx
    obtain ⟨b, ys, rfl, r2, z2, q2⟩ := dq_tup hy
    have l1 := q1.1
    have l2 := q2.1
    refine .inr (.inr (.inl ⟨a, b, xs, ys, rfl, rfl, same_seqT st.sub r1, same_seqT st.sub r2, by omega, fun h0 => ?_, fun h0 h1 => ?_, fun _ _ => ans_tup st (q1.append q2) (by rw [List.length_append]; omega) k⟩))
    · subst h0
      have : (_ : List PyData) = [] := List.length_eq_zero_iff.mp l1.symm
      subst this
      exact ans_s st hy k
    · subst h1
      have : (_ : List PyData) = [] := List.length_eq_zero_iff.mp l2.symm
      subst this
      rw [List.append_nil] at k
      exact ans_s st hx k
  · exact .inr (.inr (.inr (d2_catL st hx hy ee (kfrz rfl k))))
  · cases ee
theorem opAddL : Op2 Xf K (binaryOp .Add) (.l .s) gAddL := ⟨_, fun i => op_catR, d2_catL⟩
theorem opMulL : Op2 Xf K (binaryOp .Mult) (.l .s) gMulL := ⟨_, fun i => op_repR, d2_repL⟩
theorem opSub : Op2 Xf K (binaryOp .Sub) .s gSub := ⟨_, fun i => op_sub, fun {m G H σ e A x y dx dy d Q} st hx hy ee k => by
  unfold gSub at ee
  split at ee
  · cases ee
    obtain rfl := dq_int hx
    obtain rfl := dq_int hy
    exact ⟨_, _, rfl, rfl, ans_s st (.int _) k⟩
  · cases ee⟩
theorem opMul : Op2 Xf K (binaryOp .Mult) .s gMul := by
  refine ⟨_, fun i => OpR.or op_mul (OpR.or op_repR (kkR (fun X => op_repT) i)), fun {m G H σ e A x y dx dy d Q} st hx hy ee k => ?_⟩
  unfold gMul at ee
  split at ee
  · obtain ⟨hz, rfl⟩ := ite_some ee
    obtain rfl := dq_int hx
    obtain rfl := dq_int hy
    refine .inl ⟨_, _, rfl, rfl, ?_, ans_s st (.int _) k⟩
    unfold mulOk at hz
    rcases (Bool.or_eq_true _ _).mp hz with h | h
    · have := of_decide_eq_true h; exact .inl (by omega)
    · have := of_decide_eq_true h; exact .inr (by omega)
  · exact .inr (.inl (d2_repL st hx hy ee (kfrz rfl k)))
  · rename_i kk
    obtain ⟨hz, rfl⟩ := ite_some ee
    obtain ⟨a, xs, rfl, r1, z1, q1⟩ := dq_tup hx
    obtain rfl := dq_int hy
    have l1 := q1.1
    have hz2 : (List.replicate kk.toNat xs).flatten.length ≤ sizeLine := by
      rw [PyProof.Rows.lm_len_rep_flat, l1]
      have h1 : kk.toNat ≤ 1000 := Int.toNat_le.mpr hz.2.2.1
      exact Nat.le_trans (Nat.mul_le_mul h1 hz.2.2.2) (by decide)
    exact .inr (.inr ⟨a, _, xs, rfl, rfl, same_seqT st.sub r1, fun h0 => hz.1 (List.length_eq_zero_iff.mp (by rw [← l1, h0]; rfl)), hz.2.1, hz.2.2.1, by omega, ans_tup st (q1.flat _) hz2 k⟩)
  · cases ee
theorem opFdiv : Op2 Xf K (binaryOp .FloorDiv) .s gFdiv := ⟨_, fun i => op_fdiv, fun {m G H σ e A x y dx dy d Q} st hx hy ee k => by
  unfold gFdiv at ee
  split at ee
  · obtain ⟨hz, rfl⟩ := ite_some ee
    obtain rfl := dq_int hx
    obtain rfl := dq_int hy
    exact ⟨_, _, rfl, rfl, hz, ans_s st (.int _) k⟩
  · cases ee⟩
theorem opMod : Op2 Xf K (binaryOp .Mod) .s gMod := ⟨_, fun i => op_mod, fun {m G H σ e A x y dx dy d Q} st hx hy ee k => by
  unfold gMod at ee
  split at ee
  · obtain ⟨hz, rfl⟩ := ite_some ee
    obtain rfl := dq_int hx
    obtain rfl := dq_int hy
    exact ⟨_, _, rfl, rfl, hz, ans_s st (.int _) k⟩
  · cases ee⟩
theorem opPow : Op2 Xf K (binaryOp .Pow) .s gPow := ⟨_, fun i => op_pow, fun {m G H σ e A x y dx dy d Q} st hx hy ee k => by
  unfold gPow at ee
  split at ee
  · obtain ⟨hz, rfl⟩ := ite_some ee
    obtain rfl := dq_int hx
    obtain rfl := dq_int hy
    exact ⟨_, _, rfl, rfl, hz, ans_s st (.int _) k⟩
  · cases ee⟩
theorem pd_neg {m m1 : List Ty} {pos : Pos} {a : Expr} {f : Ef} (ha : PD Xf K m a .s f m1) : PD Xf K m (.UnaryOp .USub a pos) .s (e1 gNeg f) m1 := by
  obtain ⟨ta, pa, da⟩ := ha.ex
  refine ⟨_, fun i => pe_un un_neg (pa i), DE.un da fun {m G H σ e A x dx d Q} st hx ee k => ?_⟩
  unfold gNeg at ee
  split at ee
  · cases ee
    obtain rfl := dq_int hx
    exact ⟨_, rfl, ans_s st (.int _) k⟩
  · cases ee
end

/-! ### subscripts, slices -/
def gIx : PyData → PyData → Option PyData
  | .list xs, .int i => atI xs i
  | .tuple xs, .int i => atI xs i
  | .str z, .int i => (atI z.cps.toList i).map fun c => .str ⟨#[c]⟩
  | _, _ => none
def cutD (ds : List PyData) (lo hi : Option Int) : List PyData := (ds.drop (HT.sIx ds.length 0 lo)).take (HT.sIx ds.length ds.length hi - HT.sIx ds.length 0 lo)
def prt : PyData → Option (Option Int)
  | .int i => some (some i)
  | _ => none
def gSl (x : PyData) (lo hi : Option Int) : Option PyData :=
  match x with
  | .list xs => some (.list (cutD xs lo hi))
  | .tuple xs => some (.tuple (cutD xs lo hi))
  | .str z => some (.str (cutS z lo hi))
  | _ => none
def gSlL (x : PyData) (lo hi : Option Int) : Option PyData :=
  match x with
  | .list xs => some (.list (cutD xs lo hi))
  | _ => none
theorem ixN_len {α β : Type} {xs : List α} {ys : List β} (h : xs.length = ys.length) (i : Int) : ixN xs.length i = ixN ys.length i := by rw [h]
theorem atI_dq {K : PySem.W.Frag} {G : Hp} {xs : List V} {ds : List PyData} (q : DqA K G xs ds) {i : Int} {d : PyData} (h : atI ds i = some d) : ∃ v, atI xs i = some v ∧ Dq K G v d := by
  unfold atI at h ⊢
  obtain ⟨j, hj, hd⟩ := Option.bind_eq_some_iff.mp h
  obtain ⟨v, hv, qv⟩ := q.get hd
  exact ⟨v, by rw [q.1, hj]; exact hv, qv⟩
theorem cut_dq {K : PySem.W.Frag} {G : Hp} {xs : List V} {ds : List PyData} (q : DqA K G xs ds) (lo hi : Option Int) : DqA K G (cutV xs lo hi) (cutD ds lo hi) := by
  unfold cutV cutD
  rw [q.1]
  have hdrop : ∀ k : Nat, DqA K G (xs.drop k) (ds.drop k) := fun k => ⟨by simp [q.1], fun i v d a b => q.2 (k + i) v d (by simpa using a) (by simpa using b)⟩
  have htake : ∀ (k : Nat) (xs : List V) (ds : List PyData), DqA K G xs ds → DqA K G (xs.take k) (ds.take k) := fun k xs ds q => ⟨by simp [q.1], fun i v d a b => by
    rw [List.getElem?_take] at a b
    split at a
    · rename_i hi; rw [if_pos hi] at b; exact q.2 i v d a b
    · cases a⟩
  exact htake _ _ _ (hdrop _)
theorem cutD_all {ds : List PyData} {lo hi : Option Int} (h : HT.sIx ds.length 0 lo = 0 ∧ HT.sIx ds.length ds.length hi = ds.length) : cutD ds lo hi = ds := by
  unfold cutD
  rw [h.1, h.2]
  simp
theorem cutS_len (z : Str) (lo hi : Option Int) : (cutS z lo hi).length ≤ z.length := by
  unfold cutS
  show ((z.cps.toList.drop _).take _).toArray.size ≤ z.cps.size
  rw [List.size_toArray, List.length_take, List.length_drop, Array.length_toList]
  omega
abbrev Of := En → Option (Option Int × En)
def oNone : Of := fun e => some (none, e)
def oSome (f : Ef) : Of := fun e => (f e).bind fun p => (prt p.1).bind fun i => some (i, p.2)
def DO (K : PySem.W.Frag) (m : List Ty) (t : TO) (f : Of) (m' : List Ty) : Prop :=
  ∀ {G H : Hp} {σ : St} {e : En} {A : List Addr} {o : Option Int} {e' : En} {Q : Option Int → Hp → Prop}, Stt K m G H σ e A → f e = some (o, e') →
    (∀ (G' H' : Hp) (A' : List Addr), Step A G H A' G' H' → Stt K m' G' H' σ e' A' → Q o H') → t σ H Q
structure PP {ι : Type} (Xf : ι → Cx) (K : PySem.W.Frag) (m : List Ty) (e : Option Expr) (f : Of) (m' : List Ty) : Prop where
  ex : ∃ t : TO, (∀ i, PO (Xf i) e t) ∧ DO K m t f m'
def eSl (gg : PyData → Option Int → Option Int → Option PyData) (a : Ef) (l u : Of) : Ef := fun e => (a e).bind fun p => (l p.2).bind fun q => (u q.2).bind fun r => (gg p.1 q.1 r.1).bind fun d => some (d, r.2)

section
variable {ι : Type} {Xf : ι → Cx} {P : Program} {w : World} {K : PySem.W.Frag} {mg : Str → Option Value} {base : Heap} {n : Nat} [F : Fam Xf P w K mg base n]
variable {m m1 m2 m3 : List Ty} {pos p p2 : Pos} {a b c : Expr} {f g h : Ef}
include F
theorem kkIx {r : PySem.W.Frag → R2} (h : ∀ X : Cx, IxR X (r X.K)) (i : ι) : IxR (Xf i) (r K) := by
  have := h (Xf i)
  rw [F.kk i] at this
  exact this
theorem ixAny : Ix2 Xf K .s gIx := by
  refine ⟨_, fun i => IxR.or (kkIx (fun X => ix_list) i) (IxR.or (kkIx (fun X => ix_tup) i) ix_str), fun {m G H σ e A x y dx dy d Q} st hx hy ee k => ?_⟩
  unfold gIx at ee
  split at ee
  · obtain ⟨a, xs, rfl, r1, z1, q1⟩ := dq_lst hx
    obtain rfl := dq_int hy
    obtain ⟨v, hv, qv⟩ := atI_dq q1 ee
    exact .inl ⟨_, _, _, v, rfl, rfl, .inl (same_rd st.sub r1), hv, ans_s st qv k⟩
  · obtain ⟨a, xs, rfl, r1, z1, q1⟩ := dq_tup hx
    obtain rfl := dq_int hy
    obtain ⟨v, hv, qv⟩ := atI_dq q1 ee
    exact .inr (.inl ⟨_, _, _, v, rfl, rfl, same_seqT st.sub r1, hv, ans_s st qv k⟩)
  · obtain ⟨rfl, z1⟩ := dq_str hx
    obtain rfl := dq_int hy
    obtain ⟨cc, hc, rfl⟩ := Option.map_eq_some_iff.mp ee
    exact .inr (.inr ⟨_, _, cc, rfl, rfl, z1, hc, ans_s st (.str _ (by show 1 ≤ sizeLine; decide)) k⟩)
  · cases ee
omit F in
theorem pp_none : PP Xf K m none oNone m := ⟨_, fun i => po_none, fun st hf k => by cases hf; exact k _ _ _ Step.refl st⟩
omit F in
theorem pp_some (ha : PD Xf K m a .s f m1) : PP Xf K m (some a) (oSome f) m1 := by
  obtain ⟨ta, pa, da⟩ := ha.ex
  refine ⟨_, fun i => po_some (pa i), fun {G H σ e A o e' Q} st hf k => ?_⟩
  unfold oSome at hf
  obtain ⟨⟨d1, e1⟩, hf1, hf⟩ := Option.bind_eq_some_iff.mp hf
  obtain ⟨o1, hf2, hf⟩ := Option.bind_eq_some_iff.mp hf
  cases hf
  refine da st hf1 fun G1 H1 v1 A1 B1 s1 st1 o1 nd1 => ?_
  cases o1 with
  | s q1 =>
    cases d1 with
    | int i =>
      cases hf2
      obtain rfl := dq_int q1
      exact ⟨i, rfl, k _ _ _ s1 st1⟩
    | _ => cases hf2
theorem kkSl {r : PySem.W.Frag → V → Option Int → Option Int → Hp → VK → Prop} (h : ∀ X : Cx, SlR X (r X.K)) (i : ι) : SlR (Xf i) (r K) := by
  have := h (Xf i)
  rw [F.kk i] at this
  exact this
theorem pd_slice {lo hi : Option Expr} {fl fu : Of} (ha : PD Xf K m a .s f m1) (hl : PP Xf K m1 lo fl m2) (hu : PP Xf K m2 hi fu m3) : PD Xf K m (.Subscript a (.Slice lo hi none p2) pos) .s (eSl gSl f fl fu) m3 := by
  obtain ⟨ta, pa, da⟩ := ha.ex
  obtain ⟨tl, pl, dl⟩ := hl.ex
  obtain ⟨tu, pu, du⟩ := hu.ex
  refine ⟨_, fun i => pe_slice (SlR.or (kkSl (fun X => sl_list) i) (SlR.or (kkSl (fun X => sl_tupA) i) sl_str)) (pa i) (pl i) (pu i), fun {G H σ e A d e' Q} st hf k => ?_⟩
  unfold eSl at hf
  obtain ⟨⟨d1, e1⟩, hf1, hf⟩ := Option.bind_eq_some_iff.mp hf
  obtain ⟨⟨lo1, e2⟩, hf2, hf⟩ := Option.bind_eq_some_iff.mp hf
  obtain ⟨⟨hi1, e3⟩, hf3, hf⟩ := Option.bind_eq_some_iff.mp hf
  obtain ⟨d2, hf4, hf⟩ := Option.bind_eq_some_iff.mp hf
  cases hf
  refine da st hf1 fun G1 H1 v1 A1 B1 s1 st1 o1 nd1 => ?_
  cases o1 with
  | s q1 =>
    refine dl st1 hf2 fun G2 H2 A2 s2 st2 => du st2 hf3 fun G3 H3 A3 s3 st3 => ?_
    have q3 := q1.mono (s2.sg.trans s3.sg)
    have s0 : Step A G H A3 G3 H3 := (s1.seq0 s2).seq0 s3
    have k' : ∀ (G' H' : Hp) (v : V) (Av A' : List Addr), Step A3 G3 H3 (Av ++ A') G' H' → Stt K m3 G' H' σ e3 A' → Own K G' H' .s d (some v) Av → (Av ++ A').Nodup → Q v H' := fun G' H' v Av A' s4 st4 o4 nd4 => k G' H' v Av A' (s0.seq0 s4) st4 o4 nd4
    cases d1 with
    | list ds =>
      cases hf4
      obtain ⟨a, xs, rfl, r1, z1, q1⟩ := dq_lst q3
      exact .inl ⟨a, xs, rfl, .inl (same_rd st3.sub r1), ans_lst st3 (cut_dq q1 _ _) (Nat.le_trans (cutV_length _ _ _) z1) (kfrz rfl k')⟩
    | tuple ds =>
      cases hf4
      obtain ⟨a, xs, rfl, r1, z1, q1⟩ := dq_tup q3
      refine .inr (.inl ⟨a, xs, rfl, same_seqT st3.sub r1, fun hw => ?_, fun _ => ans_tup st3 (cut_dq q1 _ _) (Nat.le_trans (cutV_length _ _ _) z1) k'⟩)
      rw [q1.1] at hw
      rw [cutD_all hw] at k'
      exact ans_s st3 q3 k'
    | str z =>
      cases hf4
      obtain ⟨rfl, z1⟩ := dq_str q3
      exact .inr (.inr ⟨_, rfl, z1, ans_s st3 (.str _ (Nat.le_trans (cutS_len _ _ _) z1)) k'⟩)
    | _ => cases hf4
/-- a slice of a list, kept as one's own -/
theorem pd_sliceL {lo hi : Option Expr} {fl fu : Of} (ha : PD Xf K m a .s f m1) (hl : PP Xf K m1 lo fl m2) (hu : PP Xf K m2 hi fu m3) : PD Xf K m (.Subscript a (.Slice lo hi none p2) pos) (.l .s) (eSl gSlL f fl fu) m3 := by
  obtain ⟨ta, pa, da⟩ := ha.ex
  obtain ⟨tl, pl, dl⟩ := hl.ex
  obtain ⟨tu, pu, du⟩ := hu.ex
  refine ⟨_, fun i => pe_slice (kkSl (fun X => sl_list) i) (pa i) (pl i) (pu i), fun {G H σ e A d e' Q} st hf k => ?_⟩
  unfold eSl at hf
  obtain ⟨⟨d1, e1⟩, hf1, hf⟩ := Option.bind_eq_some_iff.mp hf
  obtain ⟨⟨lo1, e2⟩, hf2, hf⟩ := Option.bind_eq_some_iff.mp hf
  obtain ⟨⟨hi1, e3⟩, hf3, hf⟩ := Option.bind_eq_some_iff.mp hf
  obtain ⟨d2, hf4, hf⟩ := Option.bind_eq_some_iff.mp hf
  cases hf
  refine da st hf1 fun G1 H1 v1 A1 B1 s1 st1 o1 nd1 => ?_
  cases o1 with
  | s q1 =>
    refine dl st1 hf2 fun G2 H2 A2 s2 st2 => du st2 hf3 fun G3 H3 A3 s3 st3 => ?_
    have q3 := q1.mono (s2.sg.trans s3.sg)
    have s0 : Step A G H A3 G3 H3 := (s1.seq0 s2).seq0 s3
    have k' : ∀ (G' H' : Hp) (v : V) (Av A' : List Addr), Step A3 G3 H3 (Av ++ A') G' H' → Stt K m3 G' H' σ e3 A' → Own K G' H' (.l .s) d (some v) Av → (Av ++ A').Nodup → Q v H' := fun G' H' v Av A' s4 st4 o4 nd4 => k G' H' v Av A' (s0.seq0 s4) st4 o4 nd4
    cases d1 with
    | list ds =>
      cases hf4
      obtain ⟨a, xs, rfl, r1, z1, q1⟩ := dq_lst q3
      exact ⟨a, xs, rfl, .inl (same_rd st3.sub r1), ans_lst st3 (cut_dq q1 _ _) (Nat.le_trans (cutV_length _ _ _) z1) k'⟩
    | _ => cases hf4
end
end DL

namespace DL
open PySem L2 PySem.Spec

/-! ### tests, and, or, not, conditional values -/
def gTruth : PyData → Option Bool
  | .none => some false
  | .bool b => some b
  | .int i => some (i != 0)
  | .str y => some ((y.length : Int) != 0)
  | .list xs => some (!xs.isEmpty)
  | .tuple xs => some (!xs.isEmpty)
  | _ => none
def bOf (f : Ef) : Bf := fun e => (f e).bind fun p => (gTruth p.1).bind fun b => some (b, p.2)
def bAnd (f g : Bf) : Bf := fun e => (f e).bind fun p => if p.1 = true then g p.2 else some (false, p.2)
def bOr (f g : Bf) : Bf := fun e => (f e).bind fun p => if p.1 = true then some (true, p.2) else g p.2
def bNot (f : Bf) : Bf := fun e => (f e).bind fun p => some (!p.1, p.2)
def eAnd (f g : Ef) : Ef := fun e => (f e).bind fun p => match p.1 with
  | .bool true => g p.2
  | .bool false => some (.bool false, p.2)
  | _ => none
def eOr (f g : Ef) : Ef := fun e => (f e).bind fun p => match p.1 with
  | .bool true => some (.bool true, p.2)
  | .bool false => g p.2
  | _ => none
def eNot (f : Ef) : Ef := e1 (fun d => match d with | .bool b => some (.bool (!b)) | _ => none) f
def eIf (c : Bf) (f g : Ef) : Ef := fun e => (c e).bind fun p => if p.1 = true then f p.2 else g p.2
def eChain (g1 g2 : PyData → PyData → Option PyData) (a b c : Ef) : Ef := fun e => (a e).bind fun p => (b p.2).bind fun q => (g1 p.1 q.1).bind fun r => match r with
  | .bool true => (c q.2).bind fun t => (g2 q.1 t.1).bind fun z => some (z, t.2)
  | .bool false => some (.bool false, q.2)
  | _ => none

section
variable {ι : Type} {Xf : ι → Cx} {P : Program} {w : World} {K : PySem.W.Frag} {mg : Str → Option Value} {base : Heap} {n : Nat} [F : Fam Xf P w K mg base n]
variable {m m1 m2 m3 : List Ty} {pos p p2 : Pos} {a b c : Expr} {f g h : Ef} {fb gb : Bf} {ty : Ty} {rest : List Expr}

theorem truV_of {G H : Hp} {v : V} {d : PyData} {b : Bool} (q : Dq K G v d) (sub : Same G H) (h : gTruth d = some b) : TruV K v H b := by
  cases q with
  | non => cases h; rfl
  | bl => cases h; rfl
  | int => cases h; rfl
  | str x hx => cases h; exact ⟨hx, rfl⟩
  | @lst a xs ds hs hl hz _ =>
    cases h
    refine .inl ⟨xs, .inl (same_rd sub hs), ?_⟩
    cases xs <;> cases ds <;> simp_all
  | @tup a xs ds hs hl hz _ =>
    cases h
    refine .inr (.inl ⟨xs, same_seqT sub hs, ?_⟩)
    cases xs <;> cases ds <;> simp_all
include F in
theorem pb_of (ha : PD Xf K m a .s f m1) (he : ∀ i whole, isTrue a (Xf i).env whole = (do let v ← whole; standAt a.pos; holding [v] (truthy v)) := by intro _ _; rfl) : PB Xf K m a (bOf f) m1 := by
  obtain ⟨ta, pa, da⟩ := ha.ex
  refine ⟨fun σ H Q => ta σ H fun x H' => ∃ k, TruV K x H' k ∧ Q k H', fun i => ?_, fun {G H σ e A b e' Q} st hf k => ?_⟩
  · have := pt_truth (X := Xf i) (pa i) (he i)
    rw [F.kk i] at this
    exact this
  · unfold bOf at hf
    obtain ⟨⟨d1, e1⟩, hf1, hf⟩ := Option.bind_eq_some_iff.mp hf
    obtain ⟨b1, hf2, hf⟩ := Option.bind_eq_some_iff.mp hf
    cases hf
    refine da st hf1 fun G1 H1 v1 A1 B1 s1 st1 o1 nd1 => ?_
    cases o1 with
    | s q1 => exact ⟨_, truV_of q1 st1.sub hf2, k _ _ _ s1 st1⟩
theorem DT.and {t u : TT} (ha : DT K m t fb m1) (hb : DT K m1 u gb m1) : DT K m (tAnd t u) (bAnd fb gb) m1 := by
  intro G H σ e A b e' Q st hf k
  unfold bAnd at hf
  obtain ⟨⟨b1, e1⟩, hf1, hf⟩ := Option.bind_eq_some_iff.mp hf
  refine ha st hf1 fun G1 H1 A1 s1 st1 => ?_
  cases b1 with
  | true => rw [if_pos rfl] at hf ⊢; exact hb st1 hf fun G2 H2 A2 s2 st2 => k _ _ _ (s1.seq0 s2) st2
  | false => rw [if_neg (by simp)] at hf ⊢; cases hf; exact k _ _ _ s1 st1
theorem DT.or {t u : TT} (ha : DT K m t fb m1) (hb : DT K m1 u gb m1) : DT K m (tOr t u) (bOr fb gb) m1 := by
  intro G H σ e A b e' Q st hf k
  unfold bOr at hf
  obtain ⟨⟨b1, e1⟩, hf1, hf⟩ := Option.bind_eq_some_iff.mp hf
  refine ha st hf1 fun G1 H1 A1 s1 st1 => ?_
  cases b1 with
  | true => rw [if_pos rfl] at hf ⊢; cases hf; exact k _ _ _ s1 st1
  | false => rw [if_neg (by simp)] at hf ⊢; exact hb st1 hf fun G2 H2 A2 s2 st2 => k _ _ _ (s1.seq0 s2) st2
theorem pbw_and1 (ha : PB Xf K m a fb m1) : PBw Xf K m (.BoolOp .And [a] pos) fb m1 := by
  obtain ⟨ta, pa, da⟩ := ha.ex
  exact ⟨ta, fun i => pw_and1 (pa i), da⟩
theorem pbw_or1 (ha : PB Xf K m a fb m1) : PBw Xf K m (.BoolOp .Or [a] pos) fb m1 := by
  obtain ⟨ta, pa, da⟩ := ha.ex
  exact ⟨ta, fun i => pw_or1 (pa i), da⟩
theorem pbw_and (ha : PB Xf K m a fb m1) (hb : PBw Xf K m1 (.BoolOp .And (b :: rest) pos) gb m1) : PBw Xf K m (.BoolOp .And (a :: b :: rest) pos) (bAnd fb gb) m1 := by
  obtain ⟨ta, pa, da⟩ := ha.ex
  obtain ⟨tb, pb, db⟩ := hb.ex
  exact ⟨_, fun i => pw_and (pa i) (pb i), DT.and da db⟩
theorem pbw_or (ha : PB Xf K m a fb m1) (hb : PBw Xf K m1 (.BoolOp .Or (b :: rest) pos) gb m1) : PBw Xf K m (.BoolOp .Or (a :: b :: rest) pos) (bOr fb gb) m1 := by
  obtain ⟨ta, pa, da⟩ := ha.ex
  obtain ⟨tb, pb, db⟩ := hb.ex
  exact ⟨_, fun i => pw_or (pa i) (pb i), DT.or da db⟩
theorem pb_w (ha : PBw Xf K m a fb m1) : PB Xf K m a fb m1 := by
  obtain ⟨ta, pa, da⟩ := ha.ex
  exact ⟨ta, fun i => (pa i).pt, da⟩
theorem pb_not (ha : PB Xf K m a fb m1) : PB Xf K m (.UnaryOp .Not a pos) (bNot fb) m1 := by
  obtain ⟨ta, pa, da⟩ := ha.ex
  refine ⟨_, fun i => pt_not (pa i), fun {G H σ e A b e' Q} st hf k => ?_⟩
  unfold bNot at hf
  obtain ⟨⟨b1, e1⟩, hf1, hf⟩ := Option.bind_eq_some_iff.mp hf
  cases hf
  exact da st hf1 fun G1 H1 A1 s1 st1 => k _ _ _ s1 st1
theorem pd_and1 (ha : PD Xf K m a .s f m1) : PD Xf K m (.BoolOp .And [a] pos) .s f m1 := by
  obtain ⟨ta, pa, da⟩ := ha.ex
  exact ⟨ta, fun i => pe_one (pa i), da⟩
theorem pd_or1 (ha : PD Xf K m a .s f m1) : PD Xf K m (.BoolOp .Or [a] pos) .s f m1 := by
  obtain ⟨ta, pa, da⟩ := ha.ex
  exact ⟨ta, fun i => pe_one (pa i), da⟩
theorem pd_and (ha : PD Xf K m a .s f m1) (hb : PD Xf K m1 (.BoolOp .And (b :: rest) pos) .s g m1) : PD Xf K m (.BoolOp .And (a :: b :: rest) pos) .s (eAnd f g) m1 := by
  obtain ⟨ta, pa, da⟩ := ha.ex
  obtain ⟨tb, pb, db⟩ := hb.ex
  refine ⟨_, fun i => pe_and (pa i) (pb i), fun {G H σ e A d e' Q} st hf k => ?_⟩
  unfold eAnd at hf
  obtain ⟨⟨d1, e1⟩, hf1, hf⟩ := Option.bind_eq_some_iff.mp hf
  refine da st hf1 fun G1 H1 v1 A1 B1 s1 st1 o1 nd1 => ?_
  cases o1 with
  | s q1 =>
    cases q1 with
    | bl b1 =>
      cases b1 with
      | true => exact ⟨true, rfl, db st1 hf fun G2 H2 v2 A2 B2 s2 st2 o2 nd2 => k _ _ _ _ _ (s1.seq0 s2) st2 o2 nd2⟩
      | false => cases hf; exact ⟨false, rfl, ans_s st1 (.bl false) fun G2 H2 v2 A2 B2 s2 st2 o2 nd2 => k _ _ _ _ _ (s1.seq0 s2) st2 o2 nd2⟩
    | _ => cases hf
theorem pd_or (ha : PD Xf K m a .s f m1) (hb : PD Xf K m1 (.BoolOp .Or (b :: rest) pos) .s g m1) : PD Xf K m (.BoolOp .Or (a :: b :: rest) pos) .s (eOr f g) m1 := by
  obtain ⟨ta, pa, da⟩ := ha.ex
  obtain ⟨tb, pb, db⟩ := hb.ex
  refine ⟨_, fun i => pe_or (pa i) (pb i), fun {G H σ e A d e' Q} st hf k => ?_⟩
  unfold eOr at hf
  obtain ⟨⟨d1, e1⟩, hf1, hf⟩ := Option.bind_eq_some_iff.mp hf
  refine da st hf1 fun G1 H1 v1 A1 B1 s1 st1 o1 nd1 => ?_
  cases o1 with
  | s q1 =>
    cases q1 with
    | bl b1 =>
      cases b1 with
      | false => exact ⟨false, rfl, db st1 hf fun G2 H2 v2 A2 B2 s2 st2 o2 nd2 => k _ _ _ _ _ (s1.seq0 s2) st2 o2 nd2⟩
      | true => cases hf; exact ⟨true, rfl, ans_s st1 (.bl true) fun G2 H2 v2 A2 B2 s2 st2 o2 nd2 => k _ _ _ _ _ (s1.seq0 s2) st2 o2 nd2⟩
    | _ => cases hf
theorem pd_not (ha : PD Xf K m a .s f m1) : PD Xf K m (.UnaryOp .Not a pos) .s (eNot f) m1 := by
  obtain ⟨ta, pa, da⟩ := ha.ex
  refine ⟨_, fun i => pe_not (pa i), DE.un (r := fun x H Q => ∃ c, x = .bl c ∧ Q (.bl (!c)) H) da fun {m G H σ e A x dx d Q} st hx ee k => ?_⟩
  split at ee
  · cases ee
    obtain rfl := dq_bool hx
    exact ⟨_, rfl, ans_s st (.bl _) k⟩
  · cases ee
theorem pd_ifexp (hc : PB Xf K m c fb m1) (ha : PD Xf K m1 a ty f m2) (hb : PD Xf K m1 b ty g m2) : PD Xf K m (.IfExp c a b pos) ty (eIf fb f g) m2 := by
  obtain ⟨tc, pc, dc⟩ := hc.ex
  obtain ⟨ta, pa, da⟩ := ha.ex
  obtain ⟨tb, pb, db⟩ := hb.ex
  refine ⟨_, fun i => pe_ifExp (pc i) (pa i) (pb i), fun {G H σ e A d e' Q} st hf k => ?_⟩
  unfold eIf at hf
  obtain ⟨⟨b1, e1⟩, hf1, hf⟩ := Option.bind_eq_some_iff.mp hf
  refine dc st hf1 fun G1 H1 A1 s1 st1 => ?_
  cases b1 with
  | true => rw [if_pos rfl] at hf ⊢; exact da st1 hf fun G2 H2 v2 A2 B2 s2 st2 o2 nd2 => k _ _ _ _ _ (s1.seq0 s2) st2 o2 nd2
  | false => rw [if_neg (by simp)] at hf ⊢; exact db st1 hf fun G2 H2 v2 A2 B2 s2 st2 o2 nd2 => k _ _ _ _ _ (s1.seq0 s2) st2 o2 nd2
theorem DE.chain {r r' : R2} {ta tb tc : TE} {g1 g2 : PyData → PyData → Option PyData} (ha : DE K m ta .s f m1) (hb : DE K m1 tb .s g m2) (hc : DE K m2 tc .s h m2) (hr : D2 K r .s g1) (hr' : D2 K r' .s g2) : DE K m (tChain r r' ta tb tc) .s (eChain g1 g2 f g h) m2 := by
  intro G H σ e A d e' Q st hf k
  unfold eChain at hf
  obtain ⟨⟨d1, e1⟩, hf1, hf⟩ := Option.bind_eq_some_iff.mp hf
  obtain ⟨⟨d2, e2⟩, hf2, hf⟩ := Option.bind_eq_some_iff.mp hf
  obtain ⟨d3, hf3, hf⟩ := Option.bind_eq_some_iff.mp hf
  refine ha st hf1 fun G1 H1 v1 A1 B1 s1 st1 o1 nd1 => ?_
  cases o1 with
  | s q1 =>
    refine hb st1 hf2 fun G2 H2 v2 A2 B2 s2 st2 o2 nd2 => ?_
    cases o2 with
    | s q2 =>
      refine hr st2 (q1.mono s2.sg) q2 hf3 fun G3 H3 v3 A3 B3 s3 st3 o3 nd3 => ?_
      cases o3 with
      | s q3 =>
        have s03 := (s1.seq0 s2).seq0 s3
        cases q3 with
        | bl b3 =>
          refine ⟨b3, rfl, ?_⟩
          cases b3 with
          | true =>
            rw [if_pos rfl]
            obtain ⟨⟨d4, e4⟩, hf4, hf⟩ := Option.bind_eq_some_iff.mp hf
            obtain ⟨d5, hf5, hf⟩ := Option.bind_eq_some_iff.mp hf
            cases hf
            refine hc st3 hf4 fun G4 H4 v4 A4 B4 s4 st4 o4 nd4 => ?_
            cases o4 with
            | s q4 => exact hr' st4 (q2.mono (s3.sg.trans s4.sg)) q4 hf5 fun G5 H5 v5 A5 B5 s5 st5 o5 nd5 => k _ _ _ _ _ ((s03.seq0 s4).seq0 s5) st5 o5 nd5
          | false =>
            rw [if_neg (by simp)]
            cases hf
            exact ans_s st3 (.bl false) fun G5 H5 v5 A5 B5 s5 st5 o5 nd5 => k _ _ _ _ _ (s03.seq0 s5) st5 o5 nd5
        | _ => cases hf
theorem pd_chain {op op' : CmpOp} {g1 g2 : PyData → PyData → Option PyData} (ho : Op2 Xf K (compareOp op) .s g1) (ho' : Op2 Xf K (compareOp op') .s g2) (ha : PD Xf K m a .s f m1) (hb : PD Xf K m1 b .s g m2) (hc : PD Xf K m2 c .s h m2)
    (hm : lastMarks [op, op'] [b, c] = false := by with_unfolding_all rfl) : PD Xf K m (.Compare a [op, op'] [b, c] pos) .s (eChain g1 g2 f g h) m2 := by
  obtain ⟨r, hr, dr⟩ := ho.ex
  obtain ⟨r', hr', dr'⟩ := ho'.ex
  obtain ⟨ta, pa, da⟩ := ha.ex
  obtain ⟨tb, pb, db⟩ := hb.ex
  obtain ⟨tc, pc, dc⟩ := hc.ex
  exact ⟨_, fun i => pe_chain (hr i) (hr' i) (pa i) (pb i) (pc i) hm, DE.chain da db dc dr dr'⟩
/-- a comparison, a chain, as a test -/
theorem DE.test {te : TE} (ha : DE K m te .s f m1) : DT K m (tTest te) (fun e => (f e).bind fun p => match p.1 with | .bool b => some (b, p.2) | _ => none) m1 := by
  intro G H σ e A b e' Q st hf k
  obtain ⟨⟨d1, e1⟩, hf1, hf⟩ := Option.bind_eq_some_iff.mp hf
  refine ha st hf1 fun G1 H1 v1 A1 B1 s1 st1 o1 nd1 => ?_
  cases o1 with
  | s q1 =>
    cases q1 with
    | bl b1 => cases hf; exact ⟨_, rfl, k _ _ _ s1 st1⟩
    | _ => cases hf
end
def bT (f : Ef) : Bf := fun e => (f e).bind fun p => match p.1 with | .bool b => some (b, p.2) | _ => none
section
variable {ι : Type} {Xf : ι → Cx} {P : Program} {w : World} {K : PySem.W.Frag} {mg : Str → Option Value} {base : Heap} {n : Nat} [F : Fam Xf P w K mg base n]
variable {m m1 m2 m3 : List Ty} {pos p p2 : Pos} {a b c : Expr} {f g h : Ef} {fb gb : Bf} {ty : Ty} {rest : List Expr}
theorem pb_cmp {op : CmpOp} {gg : PyData → PyData → Option PyData} (ho : Op2 Xf K (compareOp op) .s gg) (ha : PD Xf K m a .s f m1) (hb : PD Xf K m1 b .s g m2) (hm : behindInMarks op b = false := by first | exact nomark _ | rfl) : PB Xf K m (.Compare a [op] [b] pos) (bT (e2 gg f g)) m2 := by
  obtain ⟨r, hr, dr⟩ := ho.ex
  obtain ⟨ta, pa, da⟩ := ha.ex
  obtain ⟨tb, pb, db⟩ := hb.ex
  exact ⟨_, fun i => pt_cmpR (hr i) (pa i) (pb i) hm, DE.test (DE.bin da db dr)⟩
theorem pb_chain {op op' : CmpOp} {g1 g2 : PyData → PyData → Option PyData} (ho : Op2 Xf K (compareOp op) .s g1) (ho' : Op2 Xf K (compareOp op') .s g2) (ha : PD Xf K m a .s f m1) (hb : PD Xf K m1 b .s g m2) (hc : PD Xf K m2 c .s h m2)
    (hm : lastMarks [op, op'] [b, c] = false := by with_unfolding_all rfl) : PB Xf K m (.Compare a [op, op'] [b, c] pos) (bT (eChain g1 g2 f g h)) m2 := by
  obtain ⟨r, hr, dr⟩ := ho.ex
  obtain ⟨r', hr', dr'⟩ := ho'.ex
  obtain ⟨ta, pa, da⟩ := ha.ex
  obtain ⟨tb, pb, db⟩ := hb.ex
  obtain ⟨tc, pc, dc⟩ := hc.ex
  exact ⟨_, fun i => pt_chain (hr i) (hr' i) (pa i) (pb i) (pc i) hm, DE.test (DE.chain da db dc dr dr')⟩
end

/-! ### argument lists: with slots that are lent -/
def LendOk (σ : St) (vs : List V) (L : List (Option Nat)) : Prop := ∀ k j : Nat, L[k]? = some (some j) → ∃ v, vs[k]? = some v ∧ σ[j]? = some (some v)
def DAL (K : PySem.W.Frag) (m : List Ty) (ta : TA) (tys : List Ty) (L : List (Option Nat)) (f : Lf) (m' : List Ty) : Prop :=
  ∀ {G H : Hp} {σ : St} {e : En} {A : List Addr} {ds : List PyData} {e' : En} {Q : List V → Hp → Prop}, Stt K m G H σ e A → f e = some (ds, e') →
    (∀ (G' H' : Hp) (vs : List V) (Av A' : List Addr), Step A G H (Av ++ A') G' H' → Stt K m' G' H' σ e' A' → OwnA K G' H' tys ds (vs.map some) Av → (Av ++ A').Nodup → LendOk σ vs L → Q vs H') → ta σ H Q
structure PAL {ι : Type} (Xf : ι → Cx) (K : PySem.W.Frag) (m : List Ty) (es : List Expr) (tys : List Ty) (L : List (Option Nat)) (f : Lf) (m' : List Ty) : Prop where
  ex : ∃ ta : TA, (∀ i, PA (Xf i) es ta) ∧ DAL K m ta tys L f m'
def lNil : Lf := fun e => some ([], e)
def lCons (f : Ef) (r : Lf) : Lf := fun e => (f e).bind fun p => (r p.2).bind fun q => some (p.1 :: q.1, q.2)
def eLend : Ef := fun e => some (.none, e)
section
variable {ι : Type} {Xf : ι → Cx} {P : Program} {w : World} {K : PySem.W.Frag} {mg : Str → Option Value} {base : Heap} {n : Nat} [F : Fam Xf P w K mg base n]
variable {m m1 m2 m3 : List Ty} {pos p p2 : Pos} {a b c : Expr} {es : List Expr} {f g h : Ef} {fr : Lf} {ty : Ty} {tys : List Ty} {L : List (Option Nat)}
theorem pl_nil : PAL Xf K m [] [] [] lNil m := ⟨_, fun i => pa_nil, fun {G H σ e A ds e' Q} st hf k => by
  cases hf
  exact k G H [] [] A Step.refl st .nil st.nd fun k j h => by simp at h⟩
theorem DAL.cons {te : TE} {ta : TA} (ha : DE K m te ty f m1) (hr : DAL K m1 ta tys L fr m2) : DAL K m (tCons te ta) (ty :: tys) (none :: L) (lCons f fr) m2 := by
  intro G H σ e A ds e' Q st hf k
  unfold lCons at hf
  obtain ⟨⟨d1, e1⟩, hf1, hf⟩ := Option.bind_eq_some_iff.mp hf
  obtain ⟨⟨ds1, e2⟩, hf2, hf⟩ := Option.bind_eq_some_iff.mp hf
  cases hf
  refine ha st hf1 fun G1 H1 v1 A1 B1 s1 st1 o1 nd1 => hr st1 hf2 fun G2 H2 vs A2 B2 s2 st2 o2 nd2 hl => ?_
  obtain ⟨s3, nd3, hg, hh⟩ := s1.seq (own_at o1) nd1 s2 nd2
  rw [← List.append_assoc] at s3 nd3
  refine k G2 H2 (v1 :: vs) (A1 ++ A2) B2 s3 st2 (.cons (own_fr o1 s2.sg hg hh) o2) nd3 fun kk j hj => ?_
  cases kk with
  | zero => simp at hj
  | succ kk => exact hl kk j (by simpa using hj)
theorem pl_cons (ha : PD Xf K m a ty f m1) (hr : PAL Xf K m1 es tys L fr m2) (hs : ∀ i, starEach (a :: es) (Xf i).env = (false, eval a (Xf i).env) :: starEach es (Xf i).env := by intro _; rfl) : PAL Xf K m (a :: es) (ty :: tys) (none :: L) (lCons f fr) m2 := by
  obtain ⟨ta, pa, da⟩ := ha.ex
  obtain ⟨tr, pr, dr⟩ := hr.ex
  exact ⟨_, fun i => pa_cons (pa i) (pr i) (hs i), DAL.cons da dr⟩
/-- a slot's own object handed in as it is -/
theorem pl_lend (j : Nat) {x : Str} {t : Ty} (hr : PAL Xf K m es tys L fr m2) (hm : m[j]? = some t := by rfl) (hu : t ≠ .u := by exact fun z => nomatch z) (hN : ∀ i, (Xf i).N[j]? = some x := by intro _; rfl)
    (hv : ∀ i, Vis (Xf i).env.scope x := by first | (intro _; exact Or.inl rfl) | (intro _; exact Or.inr (Or.inl rfl)) | (intro _; exact Or.inr (Or.inr rfl))) (hd : (x == ("__debug__" : Str)) = false := by decide)
    (hcd : (x == ("__classdict__" : Str)) = false := by decide) (hs : ∀ i, starEach (.Name x pos :: es) (Xf i).env = (false, eval (.Name x pos) (Xf i).env) :: starEach es (Xf i).env := by intro _; rfl) :
    PAL Xf K m (.Name x pos :: es) (.u :: tys) (some j :: L) (lCons eLend fr) m2 := by
  obtain ⟨tr, pr, dr⟩ := hr.ex
  refine ⟨_, fun i => pa_cons (pe_var (i := j) (hN i) (hv i) hd hcd) (pr i) (hs i), fun {G H σ e A ds e' Q} st hf k => ?_⟩
  unfold lCons eLend at hf
  obtain ⟨⟨d1, e1⟩, hf1, hf⟩ := Option.bind_eq_some_iff.mp hf
  cases hf1
  obtain ⟨⟨ds1, e2⟩, hf2, hf⟩ := Option.bind_eq_some_iff.mp hf
  cases hf
  obtain ⟨d', v, Aj, A0, h1, h2, h3, h4, hp⟩ := ownA_take st.own hm
  have hv : ∃ x, v = some x := by
    cases h3 with
    | u => exact absurd rfl hu
    | s => exact ⟨_, rfl⟩
    | q => exact ⟨_, rfl⟩
    | l => exact ⟨_, rfl⟩
    | r => exact ⟨_, rfl⟩
  obtain ⟨x, rfl⟩ := hv
  refine ⟨x, h2, dr st hf2 fun G2 H2 vs A2 B2 s2 st2 o2 nd2 hl => k G2 H2 (x :: vs) A2 B2 s2 st2 (OwnA.cons (A := []) (.u _ _) o2) nd2 fun kk j' hj => ?_⟩
  cases kk with
  | zero =>
    simp at hj
    subst hj
    exact ⟨x, rfl, h2⟩
  | succ kk => exact hl kk j' (by simpa using hj)

/-! ### displays -/
def eTup (r : Lf) : Ef := fun e => (r e).bind fun p => some (.tuple p.1, p.2)
def eLst (r : Lf) : Ef := fun e => (r e).bind fun p => some (.list p.1, p.2)
theorem pd_tup {k : Nat} (hr : PAL Xf K m es (List.replicate k .s) L fr m1) (hk : es.length = k := by rfl) (hz : k ≤ sizeLine := by decide) {x1} : PD Xf K m (.Tuple es x1 pos) .s (eTup fr) m1 := by
  obtain ⟨tr, pr, dr⟩ := hr.ex
  refine ⟨_, fun i => pe_tup (pr i), fun {G H σ e A d e' Q} st hf k' => ?_⟩
  unfold eTup at hf
  obtain ⟨⟨ds1, e1⟩, hf1, hf⟩ := Option.bind_eq_some_iff.mp hf
  cases hf
  refine dr st hf1 fun G1 H1 vs A1 B1 s1 st1 o1 nd1 _ => ?_
  obtain ⟨e0, q⟩ := of_ownA o1
  subst e0
  have hl := (ownA_len o1).1
  rw [List.length_replicate] at hl
  have hz2 : vs.length ≤ sizeLine := by rw [q.1, ← hl]; exact hz
  exact ⟨hz2, ans_tup st1 q hz2 fun G2 H2 v2 A2 B2 s2 st2 o2 nd2 => k' _ _ _ _ _ (s1.seq0 s2) st2 o2 nd2⟩
theorem DAL.lst {ta : TA} {tyR : Ty} {tys : List Ty} (dr : DAL K m ta tys L fr m1) (hz : tys.length ≤ sizeLine) (mk : ∀ {G H : Hp} {a : Addr} {vs : List V} {ds : List PyData} {A : List Addr}, G a = none → H a = some (.lst vs) → vs.length ≤ sizeLine → OwnA K G H tys ds (vs.map some) A → Own K G H tyR (.list ds) (some (.ref a)) (a :: A)) : DE K m (tLst ta) tyR (eLst fr) m1 := by
  intro G H σ e A d e' Q st hf k'
  unfold eLst at hf
  obtain ⟨⟨ds1, e1⟩, hf1, hf⟩ := Option.bind_eq_some_iff.mp hf
  cases hf
  refine dr st hf1 fun G1 H1 vs A1 B1 s1 st1 o1 nd1 _ => ?_
  have hl := ownA_len o1
  have hz2 : vs.length ≤ sizeLine := by have := hl.2; rw [List.length_map] at this; omega
  refine ⟨hz2, fun p hp => ?_⟩
  obtain ⟨s2, st2, nd2, gp⟩ := new_o (o := .lst vs) (B := []) st1 hp
  have nv : ∀ a ∈ A1, a ≠ p := fun a ha z => by obtain ⟨_, o, e⟩ := ownA_at o1 a ha; rw [z, hp] at e; cases e
  have o1' : OwnA K G1 (upd H1 p (.lst vs)) tys ds1 (vs.map some) A1 := ownA_fr o1 (Same.refl _) (fun a ha => (ownA_at o1 a ha).1) fun a ha => upd_ne (nv a ha)
  have nd3 : (p :: (A1 ++ B1)).Nodup := List.nodup_cons.mpr ⟨fun h => (List.mem_append.mp h).elim (fun h => nv p h rfl) fun h => (List.nodup_cons.mp nd2).1 h, nd1⟩
  refine k' G1 (upd H1 p (.lst vs)) (.ref p) (p :: A1) B1 ?_ st2 (mk gp upd_same hz2 o1') nd3
  refine ⟨s1.sg, fun a o h ha => ?_, fun a ha => ?_, s1.gnew⟩
  · have h1 := s1.fr a o h ha
    rw [upd_ne (ne_of_none h1 hp)]; exact h1
  · rcases List.mem_cons.mp ha with rfl | ha
    · exact s1.back hp
    · exact s1.own a ha
/-- a list display, all items of one type -/
theorem pd_lst {k : Nat} (t : Ty) (hr : PAL Xf K m es (List.replicate k t) L fr m1) (hz : k ≤ sizeLine := by decide) : PD Xf K m (.List es pos) (.l t) (eLst fr) m1 := by
  obtain ⟨tr, pr, dr⟩ := hr.ex
  refine ⟨_, fun i => pe_lst (pr i), DAL.lst dr (by rw [List.length_replicate]; exact hz) fun h1 h2 h3 o => .l h1 h2 h3 ?_⟩
  have hl := (ownA_len o).1
  rw [List.length_replicate] at hl
  rw [← hl]; exact o
/-- a list display of a fixed shape -/
theorem pd_rec (hr : PAL Xf K m es tys L fr m1) (hz : tys.length ≤ sizeLine := by decide) : PD Xf K m (.List es pos) (.r tys) (eLst fr) m1 := by
  obtain ⟨tr, pr, dr⟩ := hr.ex
  exact ⟨_, fun i => pe_lst (pr i), DAL.lst dr hz fun h1 h2 h3 o => .r h1 h2 h3 o⟩
end
end DL

namespace DL
open PySem L2 PySem.Spec

/-! ### masks weakened -/
inductive LeT : Ty → Ty → Prop
  | rfl (t : Ty) : LeT t t
  | u (t : Ty) : LeT t .u
  | s (t : Ty) (h : nou t = true) : LeT t .s
inductive LeM : List Ty → List Ty → Prop
  | nil : LeM [] []
  | cons {t t' : Ty} {m m' : List Ty} : LeT t t' → LeM m m' → LeM (t :: m) (t' :: m')
theorem LeM.refl : ∀ m : List Ty, LeM m m
  | [] => .nil
  | t :: m => .cons (.rfl t) (LeM.refl m)
section
variable {K : PySem.W.Frag} {G H : Hp}
theorem ownA_le {m m' : List Ty} (l : LeM m m') : ∀ {e : En} {σ : St} {A : List Addr}, OwnA K G H m e σ A →
    ∃ Fz Dr A' : List Addr, A.Perm (Fz ++ (Dr ++ A')) ∧ ∀ G' : Hp, Same G G' → (∀ a ∈ Fz, G' a = H a) → (∀ a ∈ A', G' a = none) → OwnA K G' H m' e σ A' := by
  induction l with
  | nil => intro e σ A h; cases h; exact ⟨[], [], [], by simp, fun _ _ _ _ => .nil⟩
  | @cons t t' m m' lt lm ih =>
    intro e σ A h
    cases h with
    | @cons _ _ d ds v vs A1 A2 h1 h2 =>
      obtain ⟨Fz, Dr, A', p, k⟩ := ih h2
      cases lt with
      | rfl =>
        refine ⟨Fz, Dr, A1 ++ A', ?_, fun G' sg hf ha => .cons (own_fr h1 sg (fun a h => ha a (List.mem_append_left _ h)) fun _ _ => rfl) (k G' sg hf fun a h => ha a (List.mem_append_right _ h))⟩
        refine (List.Perm.append_left A1 p).trans (List.perm_iff_count.mpr fun z => ?_)
        simp only [List.count_append]; omega
      | u =>
        refine ⟨Fz, A1 ++ Dr, A', ?_, fun G' sg hf ha => OwnA.cons (A := []) (.u _ _) (k G' sg hf ha)⟩
        refine (List.Perm.append_left A1 p).trans (List.perm_iff_count.mpr fun z => ?_)
        simp only [List.count_append]; omega
      | s h =>
        refine ⟨A1 ++ Fz, Dr, A', ?_, fun G' sg hf ha => ?_⟩
        · rw [List.append_assoc]; exact List.Perm.append_left A1 p
        · obtain ⟨x, hx, q⟩ := own_frz h1 sg (fun a h => hf a (List.mem_append_left _ h)) h
          subst hx
          exact OwnA.cons (A := []) (.s q) (k G' sg (fun a h => hf a (List.mem_append_right _ h)) ha)
theorem stt_le {m m' : List Ty} (l : LeM m m') {e : En} {σ : St} {A : List Addr} (st : Stt K m G H σ e A) : ∃ G' A', Step A G H A' G' H ∧ Stt K m' G' H σ e A' := by
  obtain ⟨Fz, Dr, A', p, k⟩ := ownA_le l st.own
  have nd := p.nodup_iff.mp st.nd
  have inA : ∀ a, a ∈ Fz → a ∈ A := fun a h => p.mem_iff.mpr (List.mem_append_left _ h)
  have inA' : ∀ a, a ∈ A' → a ∈ A := fun a h => p.mem_iff.mpr (List.mem_append_right _ (List.mem_append_right _ h))
  have sg : Same G (lay G H Fz) := fun b x hx => by
    by_cases q : b ∈ Fz
    · rw [(ownA_at st.own b (inA b q)).1] at hx; cases hx
    · rw [lay_out q]; exact hx
  have dis : ∀ a ∈ A', a ∉ Fz := fun a ha hb => (List.nodup_append.mp nd).2.2 a hb a (List.mem_append_right _ ha) rfl
  refine ⟨lay G H Fz, A', ⟨sg, fun a o h _ => h, fun a ha => .inl (inA' a ha), fun a h1 ⟨o, h2⟩ => ?_⟩, ⟨k _ sg (fun a ha => lay_in ha) fun a ha => ?_, (List.nodup_append.mp (List.nodup_append.mp nd).2.1).2.1, fun b x hx => ?_⟩⟩
  · by_cases q : a ∈ Fz
    · exact .inl (inA a q)
    · rw [lay_out q, h1] at h2; cases h2
  · rw [lay_out (dis a ha)]; exact (ownA_at st.own a (inA' a ha)).1
  · by_cases q : b ∈ Fz
    · rw [lay_in q] at hx; exact hx
    · rw [lay_out q] at hx; exact st.sub b x hx
end

/-! ### a def's promise over data; the call -/
abbrev DFn := List PyData → Option (PyData × List PyData)
def spD (K : PySem.W.Frag) (ptys : List Ty) (rty : Ty) (Fn : DFn) : Sp := fun vs H Q _ =>
  ∃ (ds : List PyData) (d : PyData) (fs : List PyData) (G : Hp) (A : List Addr), Fn ds = some (d, fs) ∧ OwnA K G H ptys ds (vs.map some) A ∧ A.Nodup ∧ Same G H ∧
    ∀ (G' H' : Hp) (v : V) (Av A' : List Addr), Step A G H (Av ++ A') G' H' → OwnA K G' H' ptys fs (vs.map some) A' → Own K G' H' rty d (some v) Av → (Av ++ A').Nodup → Same G' H' → Q v H'
/-- the promise kept wherever no text of an object is under way -/
structure FnG (P : Program) (w : World) (K : PySem.W.Frag) (mg : Str → Option Value) (base : Heap) (k : Nat) (f : Addr) (fd : FuncData) (ps : List Str) (sp : Sp) : Prop where
  len : ∀ vs H Q E, sp vs H Q E → vs.length = ps.length
  run : ∀ (A : Around) (outer : List Env) (s : Shared) (H : Hp) (args : Args) (us : List Value) (vs : List V) (Q : VK) (E : XK), Room k A → A.guards = some [] → Env0 P w K mg base A outer s H → BindsTo s fd args (ps.zip us) → Vals vs us → sp vs H Q E →
    codeAny (model P w) A (.call (.ref f) args) (CR CX0 outer P w H s Q E) s
/-- a def of the module, to be called by its name -/
structure CalG (P : Program) (w : World) (K : PySem.W.Frag) (mg : Str → Option Value) (base : Heap) (k : Nat) (x : Str) (ptys : List Ty) (rty : Ty) (Fn : DFn) : Prop where
  ex : ∃ (f : Addr) (fd : FuncData) (ps : List Str), FnG P w K mg base k f fd ps (spD K ptys rty Fn) ∧ mg x = some (.ref f) ∧ PySem.W.keepIn K (.ref f) = true ∧ Binds K fd ps []
class FamG {ι : Type} (Xf : ι → Cx) : Prop where
  gd : ∀ i, (Xf i).A.guards = some []

theorem fnG_of {P : Program} {w : World} {K : PySem.W.Frag} {mg : Str → Option Value} {base : Heap} {x qual : Str} {st : Stmt} {f : Addr} {fd : FuncData} {N ps : List Str} {k : Nat} {sp : Sp} (F : L2.Fun K x qual st f fd) (S : FnScope N ps (defScope st)) (len : ∀ vs H Q E, sp vs H Q E → vs.length = ps.length)
    (hbody : ∀ (cdv : Value) (A : Around) (outer : List Env) (s : Shared) (H : Hp) (vs : List V) (Q : VK) (E : XK), Room k (A.deeper (PyProof.Rows.envOfC qual (defScope st) s.heap.objs.size f cdv)) → (A.deeper (PyProof.Rows.envOfC qual (defScope st) s.heap.objs.size f cdv)).guards = some [] → sp vs H Q E →
      ∃ t, PSs (cxOf CX0 P w K mg base N qual (defScope st) f cdv A outer s H E).nox (defBody st) t ∧ t { nx := fun _ H' => Q .non H', rt := Q } (start N vs) H) : FnG P w K mg base (k + 1) f fd ps sp := by
  obtain ⟨oc, od, kV, doc, pm, an, cdv, ct, osl, rfl, lk, hcd⟩ := F.ex
  refine ⟨len, fun A outer s H args us vs Q E room gd e0 bind rel wish => ?_⟩
  have KX : K.In s.heap := e0.mod.kin.keeps fun b o e => (e0.bs b o e).1
  obtain ⟨t, bt, bq⟩ := hbody cdv A outer s H vs Q E (room.deeper _) gd wish
  have kinds : ∀ y ∈ ps.zip us, (defScope st).names.lookup y.1 = some .local ∨ ((defScope st).names.lookup y.1 = some .cell ∧ ((cellsFrom (s.heap.objs.size + 1) (defScope st).names []).lookup y.1).isSome = true) := by
    rintro ⟨nm, val⟩ hy
    have hp := S.par nm (List.of_mem_zip hy).1
    exact hp.imp id fun c => ⟨c, PySem.W.cellsFrom_some _ _ _ (.inl c)⟩
  refine codeAny_call_function room.depth (KX _ _ lk) rfl S.co S.gen rfl (PySem.W.codeRec_of KX hcd) (bind _ _ _ _ ?_)
  refine wpAny_newFunctionEnv_cells S.kind kinds fun env he s1 ic => ?_
  subst he
  have lim := e0.mod.nolimit.keeps fun b o e => (e0.bs b o e).1
  refine ⟨Heap.NoLimit.keeps lim ic.toInCall.keep, codeAny_func ?_⟩
  have I0 := inv_start (CX := CX0) (E := E) S room.hd e0 (len _ _ _ _ wish) rel ic
  refine wpAny_mono (bt.nox.run [] s1 _ H _ I0 bq) ?_ fun e s' z => z
  intro fl s' z
  cases fl with
  | ret u => obtain ⟨v, σ', H', J, rv, q⟩ := z; exact ⟨v, H', J.os, J.bare, J.base, J.hok, rv, q⟩
  | next => obtain ⟨σ', H', J, q⟩ := z; exact ⟨V.non, H', J.os, J.bare, J.base, J.hok, rfl, q⟩
  | brk => obtain ⟨_, _, _, q⟩ := z; exact q.elim
  | cont => obtain ⟨_, _, _, q⟩ := z; exact q.elim

def eCall (Fn : DFn) (r : Lf) : Ef := fun e => (r e).bind fun p => (Fn p.1).bind fun q => some (q.1, p.2)
/-- one argument, the k-th, is lent from slot j -/
def eCallL (Fn : DFn) (k j : Nat) (r : Lf) : Ef := fun e => (r e).bind fun p => (Fn (p.1.set k (p.2.getD j .none))).bind fun q => some (q.1, p.2.set j (q.2.getD k .none))

section
variable {ι : Type} {Xf : ι → Cx} {P : Program} {w : World} {K : PySem.W.Frag} {mg : Str → Option Value} {base : Heap} {n : Nat} [F : Fam Xf P w K mg base n] [FG : FamG Xf]
variable {m m1 m2 m3 : List Ty} {pos p p2 : Pos} {a b c : Expr} {es : List Expr} {f g h : Ef} {fr : Lf} {ty : Ty} {tys : List Ty} {L : List (Option Nat)}

theorem run_fnG {X : Cx} {k : Nat} {fa : Addr} {fd : FuncData} {ps : List Str} {sp : Sp} {pins : List (Addr × Obj)} {σ : St} {H : Hp} {s : Shared} {Q : VK} {E : XK} {us : List Value} {vs : List V} (Fn : FnG X.prog X.w X.K X.mg X.base k fa fd ps sp) (hr : Room k X.A) (hg : X.A.guards = some []) (hb : Binds X.K fd ps [])
    (I : L2.Inv X pins σ H s) (r : Vals vs us) (h : sp vs H Q E) : wpAny (model X.prog X.w) X.A (call (.ref fa) us) (EP X pins σ Q) X.xe s := by
  have hl : (us ++ []).length = ps.length := by rw [List.append_nil, ← r.length]; exact Fn.len _ _ _ _ h
  have hb' := hb s us I.kIn hl
  rw [List.append_nil] at hb'
  refine wpAny_call (codeAny_mono (Fn.run X.A X.stack s H ⟨us, []⟩ us vs Q E hr hg I.env0 hb' r h) ?_)
  intro z s' hq
  match z, hq with
  | .ok (.ret u), hq => exact I.after hq
  | .error e, hq => exact False.elim hq
  | .ok .next, hq => exact False.elim hq
  | .ok .brk, hq => exact False.elim hq
  | .ok .cont, hq => exact False.elim hq

/-- f(a, ..) -/
def tCallG (sp : Sp) (t : TA) : TE := fun σ H Q => t σ H fun vs H1 => sp vs H1 Q fun _ _ _ => False
include F FG in
theorem pe_callG {k : Nat} {x : Str} {rty : Ty} {Fn : DFn} (c : CalG P w K mg base k x tys rty Fn) (hk : k ≤ n) (i : ι) {t : TA} (hg : Gl (Xf i) x) (ha : PA (Xf i) (a :: es) t)
    (hdb : (x == ("__debug__" : Str)) = false := by decide) (he : starEach (a :: es) (Xf i).env = (false, eval a (Xf i).env) :: starEach es (Xf i).env := by rfl) (hpl : (backTo pos (starEach es (Xf i).env)).any (·.1) = false := by rfl) :
    PE (Xf i) (.Call (.Name x p) (a :: es) [] pos) (tCallG (spD K tys rty Fn) t) := by
  obtain ⟨fa, fd, ps, FN, hm, kp, b⟩ := c.ex
  have e1 := F.prog i
  have e2 := F.w_ i
  have e3 := F.kk i
  have e4 := F.mg_ i
  have e5 := F.base_ i
  refine ⟨fun pins s σ H Q I h => ?_⟩
  refine wpAny_Call_Name_kw (ld_glob I hg (by rw [e4]; exact hm) ?_ hdb)
  refine PySem.W.callWith_K (h₀ := (Xf i).base) I.ok.mod.kin (by rw [e3]; exact kp) (thn (ha.run pos pins s σ H _ I h) fun us s1 ⟨vs, H1, I1, r1, q1⟩ => ⟨I1.kIn, ?_⟩) he hpl
  subst e1 e2 e3 e4 e5
  exact run_fnG FN ((F.room i).mono hk) (FG.gd i) b I1 r1 q1
include F FG in
theorem pd_call {k : Nat} {x : Str} {rty : Ty} {Fn : DFn} (c : CalG P w K mg base k x tys rty Fn) (ha : PAL Xf K m (a :: es) tys L fr m1) (hk : k ≤ n := by decide) (hg : ∀ i, Gl (Xf i) x := by intro _; rfl)
    (hdb : (x == ("__debug__" : Str)) = false := by decide) (he : ∀ i, starEach (a :: es) (Xf i).env = (false, eval a (Xf i).env) :: starEach es (Xf i).env := by intro _; rfl) (hpl : ∀ i, (backTo pos (starEach es (Xf i).env)).any (·.1) = false := by intro _; rfl) :
    PD Xf K m (.Call (.Name x p) (a :: es) [] pos) rty (eCall Fn fr) m1 := by
  obtain ⟨ta, pa, da⟩ := ha.ex
  refine ⟨_, fun i => pe_callG c hk i (hg i) (pa i) hdb (he i) (hpl i), fun {G H σ e A d e' Q} st hf k' => ?_⟩
  unfold eCall at hf
  obtain ⟨⟨ds, e1⟩, hf1, hf⟩ := Option.bind_eq_some_iff.mp hf
  obtain ⟨⟨d1, fs⟩, hf2, hf⟩ := Option.bind_eq_some_iff.mp hf
  cases hf
  refine da st hf1 fun G1 H1 vs A1 B1 s1 st1 o1 nd1 _ => ?_
  have nd := List.nodup_append.mp nd1
  refine ⟨ds, _, fs, G1, A1, hf2, o1, nd.1, st1.sub, fun G2 H2 v Av A2 s2 o2 ov nd2 sub2 => ?_⟩
  -- the state's own objects are kept aside
  have nd1' : (B1 ++ A1).Nodup := List.nodup_append.mpr ⟨nd.2.1, nd.1, fun a ha b hb z => nd.2.2 b hb a ha z.symm⟩
  have s1' : Step A G H (B1 ++ A1) G1 H1 := ⟨s1.sg, s1.fr, fun a ha => s1.own a ((List.mem_append.mp ha).elim (fun z => List.mem_append_right _ z) fun z => List.mem_append_left _ z), s1.gnew⟩
  obtain ⟨s3, nd3, hg', hh'⟩ := s1'.seq (ownA_at st1.own) nd1' s2 nd2
  have n3 := List.nodup_append.mp nd3
  have n4 := List.nodup_append.mp n3.2.1
  have st2 : Stt K m1 G2 H2 σ e1 B1 := ⟨ownA_fr st1.own s2.sg hg' hh', st1.nd, sub2⟩
  refine k' G2 H2 v Av B1 (s3.less fun a ha => ?_) st2 ov ?_
  · rcases List.mem_append.mp ha with z | z
    · exact List.mem_append_right _ (List.mem_append_left _ z)
    · exact List.mem_append_left _ z
  · exact List.nodup_append.mpr ⟨n4.1, n3.1, fun a ha b hb z => n3.2.2 b hb a (List.mem_append_left _ ha) z.symm⟩
include F FG in
theorem pd_callL {k kk j : Nat} {x : Str} {rty t : Ty} {Fn : DFn} (c : CalG P w K mg base k x tys rty Fn) {tys' : List Ty} (ha : PAL Xf K m (a :: es) tys' L fr m1) (hm : m1[j]? = some t := by rfl) (hL : L[kk]? = some (some j) := by rfl) (hu : tys'[kk]? = some .u := by rfl) (ht : tys'.set kk t = tys := by rfl)
    (hk : k ≤ n := by decide) (hg : ∀ i, Gl (Xf i) x := by intro _; rfl)
    (hdb : (x == ("__debug__" : Str)) = false := by decide) (he : ∀ i, starEach (a :: es) (Xf i).env = (false, eval a (Xf i).env) :: starEach es (Xf i).env := by intro _; rfl) (hpl : ∀ i, (backTo pos (starEach es (Xf i).env)).any (·.1) = false := by intro _; rfl) :
    PD Xf K m (.Call (.Name x p) (a :: es) [] pos) rty (eCallL Fn kk j fr) m1 := by
  obtain ⟨ta, pa, da⟩ := ha.ex
  refine ⟨_, fun i => pe_callG c hk i (hg i) (pa i) hdb (he i) (hpl i), fun {G H σ e A d e' Q} st hf k' => ?_⟩
  unfold eCallL at hf
  obtain ⟨⟨ds, e1⟩, hf1, hf⟩ := Option.bind_eq_some_iff.mp hf
  obtain ⟨⟨d1, fs⟩, hf2, hf⟩ := Option.bind_eq_some_iff.mp hf
  cases hf
  refine da st hf1 fun G1 H1 vs A1 B1 s1 st1 o1 nd1 lk => ?_
  obtain ⟨dj, vj, Aj, B0, h1, h2, h3, h4, hp⟩ := ownA_take st1.own hm
  obtain ⟨v0, hv0, hs0⟩ := lk kk j hL
  have hvj : vj = some v0 := by rw [hs0] at h2; exact (Option.some.inj h2).symm
  subst hvj
  obtain ⟨A2, o2, p2⟩ := ownA_put o1 hu h3
  rw [ht] at o2
  have hvs : (vs.map some).set kk (some v0) = vs.map some := set_id (by rw [List.getElem?_map, hv0]; rfl)
  rw [hvs] at o2
  have ed : e1.getD j .none = dj := by rw [List.getD_eq_getElem?_getD, h1]; rfl
  rw [ed] at hf2
  have nd := List.nodup_append.mp nd1
  have ndB := List.nodup_append.mp (hp.nodup_iff.mp nd.2.1)
  -- what the callee holds; what is kept aside
  have pall : (A1 ++ B1).Perm (B0 ++ A2) := by
    refine (List.Perm.append_left A1 hp).trans ?_
    refine List.Perm.trans ?_ (List.Perm.append_left B0 p2.symm)
    rw [← List.append_assoc]
    refine List.perm_append_comm.trans (List.Perm.append_left B0 List.perm_append_comm)
  have nd2 : (B0 ++ A2).Nodup := pall.nodup_iff.mp nd1
  have n2 := List.nodup_append.mp nd2
  refine ⟨ds.set kk dj, _, fs, G1, A2, hf2, o2, n2.2.1, st1.sub, fun G2 H2 v Av A3 s2 o3 ov nd3 sub2 => ?_⟩
  have s1' : Step A G H (B0 ++ A2) G1 H1 := ⟨s1.sg, s1.fr, fun a ha => s1.own a (pall.mem_iff.mpr ha), s1.gnew⟩
  obtain ⟨s3, nd4, hg', hh'⟩ := s1'.seq (ownA_at h4) nd2 s2 nd3
  have n4 := List.nodup_append.mp nd4
  have n5 := List.nodup_append.mp n4.2.1
  have o0 := ownA_fr h4 s2.sg hg' hh'
  have hkk : tys[kk]? = some t := by
    rw [← ht]
    have := (List.getElem?_eq_some_iff.mp hu).1
    simp [this]
  obtain ⟨df, vf, Af, A4, g1, g2, g3, g4, gp⟩ := ownA_take o3 hkk
  have hvf : vf = some v0 := by rw [List.getElem?_map, hv0] at g2; exact (Option.some.inj g2).symm
  subst hvf
  have hj : (m1.set j .u)[j]? = some .u := by
    have := (List.getElem?_eq_some_iff.mp hm).1
    simp [this]
  obtain ⟨B2, o4, p4⟩ := ownA_put o0 hj g3
  rw [List.set_set, set_id hm, set_id h2] at o4
  have ef : fs.getD kk .none = df := by rw [List.getD_eq_getElem?_getD, g1]; rfl
  rw [ef] at k'
  have gn := List.nodup_append.mp (gp.nodup_iff.mp n5.2.1)
  have inA3 : ∀ a, a ∈ Af → a ∈ A3 := fun a h => gp.mem_iff.mpr (List.mem_append_left _ h)
  have ndB2 : B2.Nodup := p4.nodup_iff.mpr (List.nodup_append.mpr ⟨gn.1, n4.1, fun a ha b hb z => n4.2.2 b hb a (List.mem_append_right _ (inA3 a ha)) z.symm⟩)
  have inB2 : ∀ a, a ∈ B2 → a ∈ Af ∨ a ∈ B0 := fun a h => List.mem_append.mp (p4.mem_iff.mp h)
  have st2 : Stt K m1 G2 H2 σ (e1.set j df) B2 := ⟨o4, ndB2, sub2⟩
  refine k' G2 H2 v Av B2 (s3.less fun a ha => ?_) st2 ov ?_
  · rcases List.mem_append.mp ha with z | z
    · exact List.mem_append_right _ (List.mem_append_left _ z)
    · rcases inB2 a z with z | z
      · exact List.mem_append_right _ (List.mem_append_right _ (inA3 a z))
      · exact List.mem_append_left _ z
  · refine List.nodup_append.mpr ⟨n5.1, ndB2, fun a ha b hb z => ?_⟩
    subst z
    rcases inB2 a hb with z | z
    · exact n5.2.2 a ha a (inA3 a z) rfl
    · exact n4.2.2 a z a (List.mem_append_left _ ha) rfl
end
end DL

namespace DL
open PySem L2 PySem.Spec

theorem bt_len : bootBuiltins "len" = some (.builtin "len") := by decide +kernel
theorem bt_tuple : bootBuiltins "tuple" = some (.type "tuple") := by decide +kernel
theorem bt_list : bootBuiltins "list" = some (.type "list") := by decide +kernel
theorem bt_int : bootBuiltins "int" = some (.type "int") := by decide +kernel
theorem bt_str : bootBuiltins "str" = some (.type "str") := by decide +kernel
theorem bt_bool : bootBuiltins "bool" = some (.type "bool") := by decide +kernel
theorem bt_sorted : bootBuiltins "sorted" = some (.builtin "sorted") := by decide +kernel
theorem bt_max : bootBuiltins "max" = some (.builtin "max") := by decide +kernel
theorem bt_min : bootBuiltins "min" = some (.builtin "min") := by decide +kernel
theorem bt_sum : bootBuiltins "sum" = some (.builtin "sum") := by decide +kernel
theorem bt_all : bootBuiltins "all" = some (.builtin "all") := by decide +kernel
theorem bt_any : bootBuiltins "any" = some (.builtin "any") := by decide +kernel
theorem bt_abs : bootBuiltins "abs" = some (.builtin "abs") := by decide +kernel
theorem bt_repr : bootBuiltins "repr" = some (.builtin "repr") := by decide +kernel
theorem bt_isinstance : bootBuiltins "isinstance" = some (.builtin "isinstance") := by decide +kernel

/-! ### what built-ins do to data -/
def gLen : PyData → Option PyData
  | .list xs => some (.int xs.length)
  | .tuple xs => some (.int xs.length)
  | .str z => some (.int z.length)
  | _ => none
def gTuple : PyData → Option PyData
  | .list xs => some (.tuple xs)
  | .tuple xs => some (.tuple xs)
  | _ => none
def gList : PyData → Option PyData
  | .list xs => some (.list xs)
  | .tuple xs => some (.list xs)
  | _ => none
def likeOk (xs : List PyData) : Bool := xs.all (fun x => xs.all fun y => PySem.W.alike x y) && xs.all (fun x => match x with | .none => false | _ => true) && decide (PyData.depthAll xs ≤ 60)
def gMax : PyData → Option PyData
  | .list (x :: xs) => if likeOk (x :: xs) = true then some (PySem.W.maxD x xs) else none
  | .tuple (x :: xs) => if likeOk (x :: xs) = true then some (PySem.W.maxD x xs) else none
  | _ => none
def gMin : PyData → Option PyData
  | .list (x :: xs) => if likeOk (x :: xs) = true then some (PySem.W.minD x xs) else none
  | .tuple (x :: xs) => if likeOk (x :: xs) = true then some (PySem.W.minD x xs) else none
  | _ => none
def gMax2 : PyData → PyData → Option PyData
  | .int i, .int j => some (.int (if j > i then j else i))
  | _, _ => none
def gMin2 : PyData → PyData → Option PyData
  | .int i, .int j => some (.int (if j < i then j else i))
  | _, _ => none
def intsOf : List PyData → Option (List Int)
  | [] => some []
  | .int i :: r => (intsOf r).map (i :: ·)
  | _ :: _ => none
def gSum : PyData → Option PyData
  | .list xs => (intsOf xs).map fun ns => .int ns.sum
  | .tuple xs => (intsOf xs).map fun ns => .int ns.sum
  | _ => none
def gAll : PyData → Option PyData
  | .list xs => some (.bool (xs.all PyData.truthy))
  | .tuple xs => some (.bool (xs.all PyData.truthy))
  | _ => none
def gAny : PyData → Option PyData
  | .list xs => some (.bool (xs.any PyData.truthy))
  | .tuple xs => some (.bool (xs.any PyData.truthy))
  | _ => none
def gAbs : PyData → Option PyData
  | .int i => some (.int (if i < 0 then -i else i))
  | _ => none
def gInt : PyData → Option PyData
  | .int i => some (.int i)
  | .bool b => some (.int (if b then 1 else 0))
  | _ => none
def sortOk (xs : List PyData) : Bool := xs.all (fun x => xs.all fun y => PySem.W.alike x y) && (xs.all (fun x => match x with | .tuple (_ :: _) => true | _ => false) || xs.all (fun x => match x with | .none => false | .tuple _ => false | _ => true)) && decide (PyData.depthAll xs ≤ 60)
def gSorted : PyData → Option PyData
  | .list xs => if sortOk xs = true then some (.list (xs.mergeSort (PySem.W.dataLe false id))) else none
  | _ => none
def gRepr (d : PyData) : Option PyData := if d.showable = true ∧ d.hasDict = false ∧ d.depth ≤ 58 ∧ d.shown.length ≤ sizeLine then some (.str d.shown) else none

section
variable {ι : Type} {Xf : ι → Cx} {P : Program} {w : World} {K : PySem.W.Frag} {mg : Str → Option Value} {base : Heap} {n : Nat} [F : Fam Xf P w K mg base n]
theorem depthAll_mem : ∀ {xs : List PyData} {x : PyData}, x ∈ xs → x.depth ≤ PyData.depthAll xs
  | y :: ys, x, h => by
    unfold PyData.depthAll
    rcases List.mem_cons.mp h with rfl | h
    · exact Nat.le_max_left _ _
    · exact Nat.le_trans (depthAll_mem h) (Nat.le_max_right _ _)
theorem like_ok {xs : List PyData} (h : likeOk xs = true) : PySem.W.AlikeAll xs ∧ PyData.depthAll xs ≤ 60 := by
  unfold likeOk at h
  simp only [Bool.and_eq_true, List.all_eq_true, decide_eq_true_eq] at h
  refine ⟨⟨fun x hx y hy => h.1.1 x hx y hy, fun x hx e => ?_⟩, h.2⟩
  have := h.1.2 x hx
  subst e
  simp at this
theorem reads_same {h : Heap} {v : Value} {d d' : PyData} {as as' : List Addr} (hp : d.plain = true) (r : Reads h v d as) (r' : Reads h v d' as') : d = d' := PySem.SeqAt.plain_unique d d' v as as' hp r r'
theorem dqA_at {X : Cx} {pins : List (Addr × Obj)} {σ : St} {H : Hp} {s : Shared} (I : L2.Inv X pins σ H s) {xs : List V} {ds : List PyData} (q : DqA X.K H xs ds) {its : List Value} (rv : Vals xs its) {i : Nat} {u : Value} (hu : its[i]? = some u) :
    ∃ v d as, xs[i]? = some v ∧ ds[i]? = some d ∧ RelV v u ∧ Dq X.K H v d ∧ Reads s.heap u d as := by
  have hi : i < its.length := (List.getElem?_eq_some_iff.mp hu).1
  have hx : i < xs.length := by rw [rv.length]; exact hi
  have hd : i < ds.length := by rw [← q.1]; exact hx
  have h1 : xs[i]? = some xs[i] := List.getElem?_eq_getElem hx
  have h2 : ds[i]? = some ds[i] := List.getElem?_eq_getElem hd
  obtain ⟨u', hu', r⟩ := rv.get h1
  rw [hu] at hu'
  cases hu'
  have qv := q.2 i _ _ h1 h2
  obtain ⟨as, rd⟩ := qv.reads I r
  exact ⟨_, _, as, h1, h2, r, qv, rd⟩
include F
theorem pd_b1 {m m1 : List Ty} {pos p : Pos} {a : Expr} {f : Ef} {x : Str} {id : String} {ty : Ty} {gg : PyData → Option PyData} (hc : Cl1 Xf K (.builtin id) ty gg) (hm : mg x = none) (hv : bootBuiltins x = some (.builtin id)) (ha : PD Xf K m a .s f m1) (hg : ∀ i, Gl (Xf i) x := by intro _; rfl)
    (hn : x ≠ "__name__" := by decide) (hdb : (x == ("__debug__" : Str)) = false := by decide) (he : ∀ i, starEach [a] (Xf i).env = (false, eval a (Xf i).env) :: starEach [] (Xf i).env := by intro _; rfl) (hpl : ∀ i, (backTo pos (starEach [] (Xf i).env)).any (·.1) = false := by intro _; rfl) :
    PD Xf K m (.Call (.Name x p) [a] [] pos) ty (e1 gg f) m1 := by
  obtain ⟨r, hr, dr⟩ := hc.ex
  obtain ⟨ta, pa, da⟩ := ha.ex
  exact ⟨_, fun i => pe_callB (hr i) (hg i) (by rw [F.mg_ i]; exact hm) hv (pa_cons (pa i) pa_nil (he i)) hn hdb (he i) (hpl i), DE.un da dr⟩
theorem pd_t1 {m m1 : List Ty} {pos p : Pos} {a : Expr} {f : Ef} {x : Str} {T : String} {ty : Ty} {gg : PyData → Option PyData} (hc : Cl1 Xf K (.type T) ty gg) (hm : mg x = none) (hv : bootBuiltins x = some (.type T)) (ha : PD Xf K m a .s f m1) (hg : ∀ i, Gl (Xf i) x := by intro _; rfl)
    (hn : x ≠ "__name__" := by decide) (hdb : (x == ("__debug__" : Str)) = false := by decide) (he : ∀ i, starEach [a] (Xf i).env = (false, eval a (Xf i).env) :: starEach [] (Xf i).env := by intro _; rfl) (hpl : ∀ i, (backTo pos (starEach [] (Xf i).env)).any (·.1) = false := by intro _; rfl) :
    PD Xf K m (.Call (.Name x p) [a] [] pos) ty (e1 gg f) m1 := by
  obtain ⟨r, hr, dr⟩ := hc.ex
  obtain ⟨ta, pa, da⟩ := ha.ex
  exact ⟨_, fun i => pe_callTy (hr i) (hg i) (by rw [F.mg_ i]; exact hm) hv (pa_cons (pa i) pa_nil (he i)) hn hdb (he i) (hpl i), DE.un da dr⟩
theorem pd_b2 {m m1 m2 : List Ty} {pos p : Pos} {a b : Expr} {f g : Ef} {x : Str} {id : String} {ty : Ty} {gg : PyData → PyData → Option PyData} (hc : Cl2 Xf K (.builtin id) ty gg) (hm : mg x = none) (hv : bootBuiltins x = some (.builtin id)) (ha : PD Xf K m a .s f m1) (hb : PD Xf K m1 b .s g m2) (hg : ∀ i, Gl (Xf i) x := by intro _; rfl)
    (hn : x ≠ "__name__" := by decide) (hdb : (x == ("__debug__" : Str)) = false := by decide) (he : ∀ i, starEach [a, b] (Xf i).env = (false, eval a (Xf i).env) :: starEach [b] (Xf i).env := by intro _; rfl) (he2 : ∀ i, starEach [b] (Xf i).env = (false, eval b (Xf i).env) :: starEach [] (Xf i).env := by intro _; rfl) (hpl : ∀ i, (backTo pos (starEach [b] (Xf i).env)).any (·.1) = false := by intro _; rfl) :
    PD Xf K m (.Call (.Name x p) [a, b] [] pos) ty (e2 gg f g) m2 := by
  obtain ⟨r, hr, dr⟩ := hc.ex
  obtain ⟨ta, pa, da⟩ := ha.ex
  obtain ⟨tb, pb, db⟩ := hb.ex
  exact ⟨_, fun i => pe_callB (hr i) (hg i) (by rw [F.mg_ i]; exact hm) hv (pa_cons (pa i) (pa_cons (pb i) pa_nil (he2 i)) (he i)) hn hdb (he i) (hpl i), DE.bin da db dr⟩
theorem kkC {r : PySem.W.Frag → List V → Hp → VK → Prop} {f : Value} (h : ∀ X : Cx, CallR X f (r X.K)) (i : ι) : CallR (Xf i) f (r K) := by
  have := h (Xf i)
  rw [F.kk i] at this
  exact this
theorem kkCc {r : PySem.W.Frag → List V → Hp → VK → Prop} {f : Value} (h : ∀ X : Cx, X.calm = true → CallR X f (r X.K)) (i : ι) : CallR (Xf i) f (r K) := by
  have := h (Xf i) (F.calm i)
  rw [F.kk i] at this
  exact this

theorem clLen : Cl1 Xf K (.builtin "len") .s gLen := by
  refine ⟨_, fun i => CallR.or (kkC (r := fun K xs H Q => ∃ p ys, xs = [.ref p] ∧ (SqL K H p ys ∨ SqT K H p ys) ∧ Q (.int ys.length) H) (fun X => call_len_seq) i) call_len_str, fun {m G H σ e A x dx d Q} st hx ee k => ?_⟩
  cases dx with
  | list ds =>
    cases ee
    obtain ⟨a, xs, rfl, r1, z1, q1⟩ := dq_lst hx
    exact .inl ⟨a, xs, rfl, .inl (.inl (same_rd st.sub r1)), by rw [q1.1]; exact ans_s st (.int _) k⟩
  | tuple ds =>
    cases ee
    obtain ⟨a, xs, rfl, r1, z1, q1⟩ := dq_tup hx
    exact .inl ⟨a, xs, rfl, .inr (same_seqT st.sub r1), by rw [q1.1]; exact ans_s st (.int _) k⟩
  | str z =>
    cases ee
    obtain ⟨rfl, z1⟩ := dq_str hx
    exact .inr ⟨_, rfl, z1, ans_s st (.int _) k⟩
  | _ => cases ee
theorem clTuple : Cl1 Xf K (.type "tuple") .s gTuple := by
  refine ⟨_, fun i => kkC (r := fun K xs H Q => ∃ p ys, xs = [.ref p] ∧ ((SqL K H p ys ∧ ∀ l, H l = none → Q (.ref l) (upd H l (.tup ys))) ∨ (SqT K H p ys ∧ Q (.ref p) H))) (fun X => call_tuple_of) i, fun {m G H σ e A x dx d Q} st hx ee k => ?_⟩
  cases dx with
  | list ds =>
    cases ee
    obtain ⟨a, xs, rfl, r1, z1, q1⟩ := dq_lst hx
    exact ⟨a, xs, rfl, .inl ⟨.inl (same_rd st.sub r1), ans_tup st q1 z1 k⟩⟩
  | tuple ds =>
    cases ee
    obtain ⟨a, xs, rfl, r1, z1, q1⟩ := dq_tup hx
    exact ⟨a, xs, rfl, .inr ⟨same_seqT st.sub r1, ans_s st hx k⟩⟩
  | _ => cases ee
theorem clList : Cl1 Xf K (.type "list") (.l .s) gList := by
  refine ⟨_, fun i => kkC (r := fun K xs H Q => ∃ p ys, xs = [.ref p] ∧ (SqL K H p ys ∨ SqT K H p ys) ∧ ∀ l, H l = none → Q (.ref l) (upd H l (.lst ys))) (fun X => call_list_of) i, fun {m G H σ e A x dx d Q} st hx ee k => ?_⟩
  cases dx with
  | list ds =>
    cases ee
    obtain ⟨a, xs, rfl, r1, z1, q1⟩ := dq_lst hx
    exact ⟨a, xs, rfl, .inl (.inl (same_rd st.sub r1)), ans_lst st q1 z1 k⟩
  | tuple ds =>
    cases ee
    obtain ⟨a, xs, rfl, r1, z1, q1⟩ := dq_tup hx
    exact ⟨a, xs, rfl, .inr (same_seqT st.sub r1), ans_lst st q1 z1 k⟩
  | _ => cases ee
/-- one of the items comes back -/
def rItem (K : PySem.W.Frag) (gg : List PyData → Option PyData) : List V → Hp → VK → Prop := fun vs H Q => ∃ a xs ds d, vs = [.ref a] ∧ (SqL K H a xs ∨ SqT K H a xs) ∧ DqA K H xs ds ∧ gg ds = some d ∧ ∀ (i : Nat) v, xs[i]? = some v → ds[i]? = some d → Q v H
def gMaxL : List PyData → Option PyData
  | x :: xs => if likeOk (x :: xs) = true then some (PySem.W.maxD x xs) else none
  | [] => none
def gMinL : List PyData → Option PyData
  | x :: xs => if likeOk (x :: xs) = true then some (PySem.W.minD x xs) else none
  | [] => none
omit F in
theorem d1Item {gg : List PyData → Option PyData} {g' : PyData → Option PyData} (h : ∀ x d, g' x = some d → ∃ ds, (x = .list ds ∨ x = .tuple ds) ∧ gg ds = some d) : D1 K (fun x => rItem K gg [x]) .s g' := fun {m G H σ e A x dx d Q} st hx ee k => by
  obtain ⟨ds, hds, e1⟩ := h _ _ ee
  rcases hds with rfl | rfl
  · obtain ⟨a, xs, rfl, r1, z1, q1⟩ := dq_lst hx
    exact ⟨a, xs, ds, d, rfl, .inl (.inl (same_rd st.sub r1)), q1.mono st.sub, e1, fun i v h1 h2 => ans_s st (q1.2 i v d h1 h2) k⟩
  · obtain ⟨a, xs, rfl, r1, z1, q1⟩ := dq_tup hx
    exact ⟨a, xs, ds, d, rfl, .inr (same_seqT st.sub r1), q1.mono st.sub, e1, fun i v h1 h2 => ans_s st (q1.2 i v d h1 h2) k⟩
theorem item_back {i : ι} {pins : List (Addr × Obj)} {σ : St} {H : Hp} {s : Shared} {Q : VK} (I : L2.Inv (Xf i) pins σ H s) {xs : List V} {ds : List PyData} (q : DqA (Xf i).K H xs ds) {its : List Value} (rv : Vals xs its) {d : PyData}
    (hq : ∀ (i : Nat) v, xs[i]? = some v → ds[i]? = some d → Q v H) {j : Nat} {v : Value} {h' : Heap} {tk : Nat} {bs : List Addr} (hv : its.toArray[j]? = some v) (r : Reads h' v d bs) (hk : ∀ b o, s.heap.get? b = some o → h'.get? b = some o) : EP (Xf i) pins σ Q v { s with heap := h', toks := tk } := by
  obtain ⟨x, d', as, h1, h2, rr, qq, rd⟩ := dqA_at I q rv (by simpa using hv)
  obtain rfl := reads_same qq.plain (PyProof.Rows.Reads.keeps hk rd) r
  exact ⟨x, H, I.kept hk, rr, hq j x h1 h2⟩
theorem clMax : Cl1 Xf K (.builtin "max") .s gMax := by
  refine ⟨rItem K gMaxL, fun i => ?_, d1Item fun x d e => ?_⟩
  · intro pins s σ H vs us Q I r h
    obtain ⟨a, xs, ds, d, rfl, hs, q, e, hq⟩ := h
    rw [← F.kk i] at hs q
    rw [Vals.ref1 r]
    cases ds with
    | nil => cases e
    | cons y ys =>
      obtain ⟨hl, rfl⟩ := ite_some e
      obtain ⟨al, dp⟩ := like_ok hl
      have hu : (Xf i).A.units + 1 + PyData.depthAll (y :: ys) < cLine := hu60 (F.room i) dp
      rcases hs with hs | hs
      · obtain ⟨its, rv, hL, _⟩ := I.list hs
        obtain ⟨as, hr⟩ := q.reads I rv
        exact PySem.W.max_list_data (I.ok.hd (F.calm i)) hL.isList hr al hu fun j v h' tk bs hv rd hk => item_back I q rv hq hv rd hk
      · obtain ⟨its, rv, hL, _⟩ := I.tuple hs
        obtain ⟨as, hr⟩ := q.reads I rv
        exact PySem.W.max_tuple_data (I.ok.hd (F.calm i)) hL hr al hu fun j v h' tk bs hv rd hk => item_back I q rv hq hv rd hk
  · unfold gMax at e
    split at e
    · exact ⟨_, .inl rfl, e⟩
    · exact ⟨_, .inr rfl, e⟩
    · cases e
theorem clMin : Cl1 Xf K (.builtin "min") .s gMin := by
  refine ⟨rItem K gMinL, fun i => ?_, d1Item fun x d e => ?_⟩
  · intro pins s σ H vs us Q I r h
    obtain ⟨a, xs, ds, d, rfl, hs, q, e, hq⟩ := h
    rw [← F.kk i] at hs q
    rw [Vals.ref1 r]
    cases ds with
    | nil => cases e
    | cons y ys =>
      obtain ⟨hl, rfl⟩ := ite_some e
      obtain ⟨al, dp⟩ := like_ok hl
      have hu : (Xf i).A.units + 1 + PyData.depthAll (y :: ys) < cLine := hu60 (F.room i) dp
      rcases hs with hs | hs
      · obtain ⟨its, rv, hL, _⟩ := I.list hs
        obtain ⟨as, hr⟩ := q.reads I rv
        exact PySem.W.min_list_data (I.ok.hd (F.calm i)) hL.isList hr al hu fun j v h' tk bs hv rd hk => item_back I q rv hq hv rd hk
      · obtain ⟨its, rv, hL, _⟩ := I.tuple hs
        obtain ⟨as, hr⟩ := q.reads I rv
        exact PySem.W.min_tuple_data (I.ok.hd (F.calm i)) hL hr al hu fun j v h' tk bs hv rd hk => item_back I q rv hq hv rd hk
  · unfold gMin at e
    split at e
    · exact ⟨_, .inl rfl, e⟩
    · exact ⟨_, .inr rfl, e⟩
    · cases e
/-- a scalar comes back, whatever the sequence -/
def rSeqS (K : PySem.W.Frag) (gg : PyData → Option PyData) : List V → Hp → VK → Prop := fun vs H Q => ∃ x dx d v, vs = [x] ∧ Dq K H x dx ∧ gg dx = some d ∧ scV d = some v ∧ Q v H
omit F in
theorem d1SeqS {gg : PyData → Option PyData} (hg : ∀ a d, gg a = some d → ∃ v, scV d = some v) : D1 K (fun x => rSeqS K gg [x]) .s gg := fun {m G H σ e A x dx d Q} st hx ee k => by
  obtain ⟨v, hv⟩ := hg _ _ ee
  exact ⟨x, dx, d, v, rfl, hx.mono st.sub, ee, hv, ans_s st (scV_dq hv) k⟩
omit F in
theorem fits_all {G : Hp} {xs : List V} {ds : List PyData} (q : DqA K G xs ds) : ∀ x ∈ ds, x.fits63 := fun x hx => fits_of (dq_mem q hx).choose_spec
theorem clAll : Cl1 Xf K (.builtin "all") .s gAll := by
  refine ⟨rSeqS K gAll, fun i => ?_, d1SeqS fun a d e => ?_⟩
  · intro pins s σ H vs us Q I r h
    obtain ⟨x, dx, d, z, rfl, hx, e, hz, q⟩ := h
    rw [← F.kk i] at hx
    cases dx with
    | list ds =>
      cases e
      obtain ⟨a, xs, rfl, r1, z1, q1⟩ := dq_lst hx
      rw [Vals.ref1 r]
      obtain ⟨its, rv, hL, _⟩ := I.list (.inl r1)
      obtain ⟨as, hr⟩ := q1.reads I rv
      exact PySem.W.all_list_data (I.ok.hd (F.calm i)) hL.isList hr q1.plain (fits_all q1) fun h' tk hk => boolE (I.kept hk) hz q
    | tuple ds =>
      cases e
      obtain ⟨a, xs, rfl, r1, z1, q1⟩ := dq_tup hx
      rw [Vals.ref1 r]
      obtain ⟨its, rv, hL, _⟩ := I.tuple r1
      obtain ⟨as, hr⟩ := q1.reads I rv
      exact PySem.W.all_tuple_data (I.ok.hd (F.calm i)) hL hr q1.plain (fits_all q1) fun h' tk hk => boolE (I.kept hk) hz q
    | _ => cases e
  · unfold gAll at e; split at e <;> cases e <;> exact ⟨_, rfl⟩
theorem clAny : Cl1 Xf K (.builtin "any") .s gAny := by
  refine ⟨rSeqS K gAny, fun i => ?_, d1SeqS fun a d e => ?_⟩
  · intro pins s σ H vs us Q I r h
    obtain ⟨x, dx, d, z, rfl, hx, e, hz, q⟩ := h
    rw [← F.kk i] at hx
    cases dx with
    | list ds =>
      cases e
      obtain ⟨a, xs, rfl, r1, z1, q1⟩ := dq_lst hx
      rw [Vals.ref1 r]
      obtain ⟨its, rv, hL, _⟩ := I.list (.inl r1)
      obtain ⟨as, hr⟩ := q1.reads I rv
      exact PySem.W.any_list_data (I.ok.hd (F.calm i)) hL.isList hr q1.plain (fits_all q1) fun h' tk hk => boolE (I.kept hk) hz q
    | tuple ds =>
      cases e
      obtain ⟨a, xs, rfl, r1, z1, q1⟩ := dq_tup hx
      rw [Vals.ref1 r]
      obtain ⟨its, rv, hL, _⟩ := I.tuple r1
      obtain ⟨as, hr⟩ := q1.reads I rv
      exact PySem.W.any_tuple_data (I.ok.hd (F.calm i)) hL hr q1.plain (fits_all q1) fun h' tk hk => boolE (I.kept hk) hz q
    | _ => cases e
  · unfold gAny at e; split at e <;> cases e <;> exact ⟨_, rfl⟩
omit F in
theorem ints_eq : ∀ {xs : List PyData} {ns : List Int}, intsOf xs = some ns → xs = ns.map .int
  | [], ns, h => by cases h; rfl
  | .int i :: r, ns, h => by
    obtain ⟨ms, h1, rfl⟩ := Option.map_eq_some_iff.mp (show (intsOf r).map (i :: ·) = some ns from h)
    rw [ints_eq h1]; rfl
omit F in
theorem dqA_ints {G : Hp} : ∀ {vs : List V} {ns : List Int}, DqA K G vs (ns.map .int) → vs = ns.map .int
  | [], [], _ => rfl
  | v :: vs, n :: ns, q => by
    have h := q.head
    rw [dq_int h, dqA_ints q.tail]; rfl
  | [], _ :: _, q => by have := q.1; simp at this
  | _ :: _, [], q => by have := q.1; simp at this
omit F in
/-- sum of a list or a tuple of ints -/
theorem cr_sumA {X : Cx} (hc : X.calm = true) : CallR X (.builtin "sum") (fun vs H Q => rSum X.K vs H Q ∨ ∃ (a : Addr) (ns : List Int), vs = [V.ref a] ∧ SqT X.K H a (ns.map V.int) ∧ Q (.int ns.sum) H) := by
  intro pins s σ H vs us Q I r h
  rcases h with h | ⟨a, ns, rfl, hs, q⟩
  · exact cr_sum hc pins s σ H vs us Q I r h
  · rw [Vals.ref1 r]
    obtain ⟨its, rv, hl, _⟩ := I.tuple hs
    obtain ⟨ys, hy⟩ := rv.ints.allInts.items
    have hn : numsOf its.toArray.toList = ns := by rw [show its.toArray.toList = its from rfl, rv.ints.numsOf]
    rw [hy] at hl hn
    rw [nums_intItems] at hn
    refine PySem.W.ktm_sumG (I.ok.hd hc) hl fun h' tk t' hk => ⟨.int ns.sum, H, I.kept hk, ⟨t', ?_⟩, q⟩
    rw [preSum_eq, List.take_of_length_le (by simp), hn]
theorem clSum : Cl1 Xf K (.builtin "sum") .s gSum := by
  refine ⟨_, fun i => kkCc (r := fun K vs H Q => rSum K vs H Q ∨ ∃ (a : Addr) (ns : List Int), vs = [V.ref a] ∧ SqT K H a (ns.map V.int) ∧ Q (.int ns.sum) H) (fun X hc => cr_sumA hc) i, fun {m G H σ e A x dx d Q} st hx ee k => ?_⟩
  cases dx with
  | list ds =>
    obtain ⟨ns, hn, rfl⟩ := Option.map_eq_some_iff.mp (show (intsOf ds).map _ = some d from ee)
    obtain ⟨a, xs, rfl, r1, z1, q1⟩ := dq_lst hx
    rw [ints_eq hn] at q1
    have hv := dqA_ints q1
    subst hv
    exact .inl ⟨a, ns, rfl, .inl (same_rd st.sub r1), ans_s st (.int _) k⟩
  | tuple ds =>
    obtain ⟨ns, hn, rfl⟩ := Option.map_eq_some_iff.mp (show (intsOf ds).map _ = some d from ee)
    obtain ⟨a, xs, rfl, r1, z1, q1⟩ := dq_tup hx
    rw [ints_eq hn] at q1
    have hv := dqA_ints q1
    subst hv
    exact .inr ⟨a, ns, rfl, same_seqT st.sub r1, ans_s st (.int _) k⟩
  | _ => cases ee
theorem clAbs : Cl1 Xf K (.builtin "abs") .s gAbs := ⟨_, fun i => call_abs, fun {m G H σ e A x dx d Q} st hx ee k => by
  cases dx with
  | int i =>
    cases ee
    obtain rfl := dq_int hx
    exact ⟨i, rfl, ans_s st (.int _) k⟩
  | _ => cases ee⟩
theorem clInt : Cl1 Xf K (.type "int") .s gInt := ⟨_, fun i => call_int1, fun {m G H σ e A x dx d Q} st hx ee k => by
  cases dx with
  | int i =>
    cases ee
    obtain rfl := dq_int hx
    exact .inl ⟨i, rfl, ans_s st (.int _) k⟩
  | bool b =>
    cases ee
    obtain rfl := dq_bool hx
    exact .inr ⟨b, rfl, ans_s st (.int _) k⟩
  | _ => cases ee⟩
theorem clMax2 : Cl2 Xf K (.builtin "max") .s gMax2 := ⟨_, fun i => call_max2 (F.calm i), fun {m G H σ e A x y dx dy d Q} st hx hy ee k => by
  unfold gMax2 at ee
  split at ee
  · cases ee
    obtain rfl := dq_int hx
    obtain rfl := dq_int hy
    exact ⟨_, _, rfl, ans_s st (.int _) k⟩
  · cases ee⟩
theorem clMin2 : Cl2 Xf K (.builtin "min") .s gMin2 := ⟨_, fun i => call_min2 (F.calm i), fun {m G H σ e A x y dx dy d Q} st hx hy ee k => by
  unfold gMin2 at ee
  split at ee
  · cases ee
    obtain rfl := dq_int hx
    obtain rfl := dq_int hy
    exact ⟨_, _, rfl, ans_s st (.int _) k⟩
  · cases ee⟩
end
end DL

namespace DL
open PySem L2 PySem.Spec

theorem bt_range : bootBuiltins "range" = some (.type "range") := by decide +kernel
theorem bt_enumerate : bootBuiltins "enumerate" = some (.type "enumerate") := by decide +kernel
theorem bt_zip : bootBuiltins "zip" = some (.type "zip") := by decide +kernel

/-! ### enumerate over a tuple (or a list): the library's draws under this layer's walk -/
set_option maxHeartbeats 8000000 in
theorem meets_enum1 {v : Value} {o : Obj} {H : Heap → Prop} (B : Begins v o H) :
    Meets (Builtin.«enumerate.__new__» ⟨[.type "enumerate", v], []⟩) (fun _ R s => H s.heap ∧
      R (.ok (.ret (.ref (s.heap.push o).objs.size))) { s with heap := (s.heap.push o).push { cls := .type "enumerate", data := .fields #[.none, .bool false, .ref s.heap.objs.size, rawInt 0, .none, .none] } }) :=
  .of_wp fun prog w A R s hh => by
    obtain ⟨hp, g, d, tk, os⟩ := s
    obtain ⟨hb, hr⟩ := hh
    have sube := sub_enumerate
    have beg : ∀ {A' : Around} {E : Value → Shared → Prop} {Q : Value → Shared → Prop}, Q (.ref hp.objs.size) ⟨hp.push o, g, d, tk, os⟩ → wpAny (model prog w) A' (pyIter v) Q E ⟨hp, g, d, tk, os⟩ :=
      fun q => B.iter prog w _ _ _ _ hb q
    wp_walk using beg
    refine wpAny_stack_any fun stk => wpAny_pure ?_
    split
    · rename_i cl _ _ _ _ _
      cases (cl == Value.type "enumerate") <;> (wp_walk using beg; exact ⟨_, rfl, hr⟩)
    · wp_walk using beg
      exact ⟨_, rfl, hr⟩
theorem call_enum1 {prog : Program} {w : World} {A : Around} {E : Value → Shared → Prop} {s : Shared} {v : Value} {o : Obj} {H : Heap → Prop} {Q : Value → Shared → Prop} (B : Begins v o H) (hb : H s.heap)
    (k : ∀ h', IsEnum h' (s.heap.objs.size + 1) s.heap.objs.size 0 .none → h'.get? s.heap.objs.size = some o → (∀ b u, s.heap.get? b = some u → h'.get? b = some u) → Q (.ref (s.heap.objs.size + 1)) { s with heap := h' }) :
    wpAny (model prog w) A (call (.type "enumerate") [v]) Q E s := by
  refine callType_new PySem.F.called_enumerate (by decide) (PySem.F.typeCall_enumerate_1 _) (PySem.F.newCall_enumerate_1 _) (fun obj => PySem.F.args_object_init_2 obj _) PySem.F.entry_enumerate_new (meets_enum1 B) ⟨hb, ?_⟩
  have sz : (s.heap.push o).objs.size = s.heap.objs.size + 1 := Heap.size_push ..
  have at1 : IsEnum ((s.heap.push o).push { cls := .type "enumerate", data := .fields #[.none, .bool false, .ref s.heap.objs.size, rawInt 0, .none, .none] }) (s.heap.push o).objs.size s.heap.objs.size 0 .none := Heap.get?_push_size _ rfl
  show _ ∧ _
  rw [sz] at at1 ⊢
  exact ⟨⟨_, at1, rfl⟩, k _ at1 (Heap.get?_push_of_some _ (Heap.get?_push_size _ B.free)) fun b u q => Heap.get?_push_of_some _ (Heap.get?_push_of_some _ q)⟩

/-- the tuple at a as it stands at each turn, each item in a new pair -/
def IteT (K : PySem.W.Frag) (a : Addr) : It where
  go i H := ∃ (xs : List V) (x : V), SqT K H a xs ∧ xs[i]? = some x
  yld i H v H' := ∃ (T : Addr) (x : V), v = .ref T ∧ H T = none ∧ H' = upd H T (.tup [.int (i : Nat), x]) ∧ ∀ xs, SqT K H a xs → xs[i]? = some x
  stop i H := ∃ xs : List V, SqT K H a xs ∧ xs.length = i
theorem turn_enumT {P : Program} {w : World} {K : PySem.W.Frag} {elts : List Expr} {kk : Nat} {tpos : Pos} (a e it : Addr) :
    Turn P w K (.Tuple elts kk tpos) (IteT K a) [e, it] e (fun i h => (∃ old, IsEnum h e it ((i : Nat) : Int) old) ∧ h.IsTupleIter it a i ∧ e ≠ it) where
  mem := List.mem_cons_self ..
  obj i h st b hb := by
    rcases List.mem_cons.mp hb with rfl | hb
    · obtain ⟨old, he⟩ := st.1
      exact ⟨_, he, fun _ z => nomatch z⟩
    · obtain rfl := List.mem_singleton.mp hb
      obtain ⟨o, ho, _, hd⟩ := st.2.1
      exact ⟨o, ho, fun _ z => by rw [hd] at z; cases z⟩
  keep i h h' st k := ⟨st.1.imp fun old he => k e (List.mem_cons_self ..) _ he, st.2.1.at fun o z => k it (List.mem_cons_of_mem _ (List.mem_singleton.mpr rfl)) o z, st.2.2⟩
  item := by
    rintro X rfl rfl rfl calm i pins s σ H E I own ⟨⟨old, he⟩, hit, ne⟩ ⟨xs, x, hq, hx⟩
    obtain ⟨its, rv, tp, _⟩ := I.tuple hq
    obtain ⟨u, hu, ru⟩ := rv.get hx
    have le := Heap.lt_size he
    have li : it < s.heap.objs.size := hit.elim fun o z => Heap.lt_size z.1
    have lt : i < its.toArray.size := by simpa using (List.getElem?_eq_some_iff.mp hu).1
    have ta : a ≠ it := fun z => by
      obtain ⟨o, ho, hc, _⟩ := hit
      obtain ⟨o', ho', hc', _⟩ := tp
      rw [z, ho] at ho'; cases ho'
      rw [hc] at hc'; exact absurd (Value.type.inj hc') (by decide)
    have ea : e ≠ a := fun z => by
      obtain ⟨o', ho', hc', _⟩ := tp
      rw [← z, he] at ho'; cases ho'
      exact absurd (Value.type.inj hc') (by decide)
    have hefp : e ∉ [it, a] := fun z => by
      rcases List.mem_cons.mp z with z | z
      · exact ne z
      · exact ea (List.mem_singleton.mp z)
    refine wpAny_pyNext_enum_itemC (Draws.tuple (A := X.A.in1) (I.ok.hd calm) it a ta its.toArray) he ⟨hit, tp⟩ lt ne hefp fun y h1 tk hy out st1 hT sz kept => ?_
    have hyu : y = u := by
      have : its.toArray[i]? = some u := by simpa using hu
      rw [this] at hy; exact (Option.some.inj hy).symm
    subst hyu
    refine ⟨_, rfl, wpAny_letOwnedTupleGo_enum (s := { s with heap := h1, toks := tk + 1 }) out fun h2 he2 same => ?_⟩
    have T2 : h2.get? s.heap.objs.size = some { cls := .type "tuple", data := .seq #[.int i tk, y] } := (same.2 _ (Nat.ne_of_gt le)).trans hT
    have okT : ObjOk X.prog X.w (upd H s.heap.objs.size (.tup [.int (i : Nat), x])) h2 s.heap.objs.size (.tup [.int (i : Nat), x]) :=
      ⟨by show 2 ≤ sizeLine; decide, [.int i tk, y], .cons ⟨tk, rfl⟩ (.cons ru .nil), ⟨_, T2, rfl, _, rfl⟩⟩
    have J := I.turnedNew (t' := tk + 1) (ch := [e, it]) (h' := h2) (fun b ob hb q => (same.2 b fun z => hb (by rw [z]; exact List.mem_cons_self ..)).trans (kept b ob (fun z => hb (by rw [z]; exact List.mem_cons_self ..)) (fun z => hb (by rw [z]; exact List.mem_cons_of_mem _ (List.mem_singleton.mpr rfl))) q)) own (Nat.le_refl _) okT
    refine ⟨.ref s.heap.objs.size, _, J, rfl, ⟨_, x, rfl, I.hok.fresh (Nat.le_refl _), rfl, fun ys hy' => by rw [I.tuple_inj hy' hq]; exact hx⟩, ⟨⟨y, by rw [show ((i + 1 : Nat) : Int) = (i : Int) + 1 by omega]; exact he2⟩, st1.1.at fun o q => (same.2 it (Ne.symm ne)).trans q, ne⟩, fun b hb => ?_⟩
    have lb : b < s.heap.objs.size := by
      rcases List.mem_cons.mp hb with z | z
      · rw [z]; exact le
      · rw [List.mem_singleton.mp z]; exact li
    rw [upd_ne (Nat.ne_of_lt lb)]
    exact (own b hb).1
  done := by
    rintro X rfl rfl rfl calm i pins s σ H E I own ⟨⟨old, he⟩, hit, ne⟩ ⟨xs, hq, hx⟩
    obtain ⟨its, rv, tp, _⟩ := I.tuple hq
    have ta : a ≠ it := fun z => by
      obtain ⟨o, ho, hc, _⟩ := hit
      obtain ⟨o', ho', hc', _⟩ := tp
      rw [z, ho] at ho'; cases ho'
      rw [hc] at hc'; exact absurd (Value.type.inj hc') (by decide)
    obtain ⟨f0, f1, f2, f3, f4, f5⟩ := own it (List.mem_cons_of_mem _ (List.mem_singleton.mpr rfl))
    have hz : its.toArray.size = i := by have := rv.length; simp; omega
    subst hz
    exact wpAny_pyNext_enum_endD (Draws.tuple (A := X.A.in1) (I.ok.hd calm) it a ta its.toArray) he ⟨hit, tp⟩ fun h' eb => ⟨rfl, I.turned (t' := s.toks) (fun b o hb q => eb b o hb q) f0 f1 f3 f4 f5⟩
  self A i s Q E st q := st.1.elim fun old he => wpAny_pyIter_enum he q
end DL

namespace DL
open PySem L2 PySem.Spec

theorem pi_enumT {X : Cx} {e : Expr} {ta : TA} {p pos tpos : Pos} {elts : List Expr} {kk : Nat} (hg : Gl X "enumerate") (hm : X.mg "enumerate" = none) (ha : PA X [e] ta) (hs : starEach [e] X.env = [(false, eval e X.env)] := by rfl) :
    PI X (.Tuple elts kk tpos) (.Call (.Name "enumerate" p) [e] [] pos) (fun σ H R => ta σ H fun vs H1 => ∃ a xs, vs = [.ref a] ∧ SqT X.K H1 a xs ∧ R (IteT X.K a) H1) := by
  refine ⟨fun pins s σ H R I h => PyProof.Rows.Call_ (ld_blt I hg hm bt_enumerate (PyProof.Rows.callWith_type1 (thn (ha.run pos pins s σ H _ I h) ?_) hs rfl))⟩
  rintro us s1 ⟨vs, H1, I1, r1, a, xs, rfl, hq, q⟩
  rw [Vals.ref1 r1]
  obtain ⟨its, rv, tp, hz⟩ := I1.tuple hq
  refine call_enum1 (begins_tuple a its.toArray) tp fun h' he hit hk => wpAny_pyIter_enum he ?_
  refine ⟨s1.heap.objs.size + 1, [s1.heap.objs.size + 1, s1.heap.objs.size], _, _, H1, rfl, I1.kept (t' := s1.toks) hk, turn_enumT a _ s1.heap.objs.size, ⟨⟨.none, he⟩, ⟨_, hit, rfl, rfl⟩, Nat.succ_ne_self _⟩, fun b hb => ?_, q⟩
  have le : s1.heap.objs.size ≤ b := by
    rcases List.mem_cons.mp hb with z | z
    · rw [z]; exact Nat.le_succ _
    · rw [List.mem_singleton.mp z]; exact Nat.le_refl _
  exact I1.fpOk le (I1.hok.fresh le)
theorem PI.or {X : Cx} {tg iter : Expr} {w1 w2 : TI} (h1 : PI X tg iter w1) (h2 : PI X tg iter w2) : PI X tg iter (fun σ H R => w1 σ H R ∨ w2 σ H R) :=
  ⟨fun pins s σ H R I h => h.elim (h1.run pins s σ H R I) (h2.run pins s σ H R I)⟩

/-! ### walks that give stable data -/
structure WalkD (K : PySem.W.Frag) (G0 : Hp) (J : It) (ds : List PyData) : Prop where
  goes : ∀ i H, i < ds.length → Same G0 H → J.go i H
  stops : ∀ H, Same G0 H → J.stop ds.length H
  yields : ∀ {i : Nat} {H : Hp} {x : V} {H' : Hp} {m : List Ty} {G : Hp} {σ : St} {e : En} {A : List Addr}, i < ds.length → Same G0 G → Stt K m G H σ e A → J.yld i H x H' →
    ∃ G', Step A G H A G' H' ∧ Stt K m G' H' σ e A ∧ Same G G' ∧ ∀ d, ds[i]? = some d → Dq K G' x d
def DI (K : PySem.W.Frag) (m : List Ty) (wi : TI) (f : Lf) (m' : List Ty) : Prop :=
  ∀ {G H : Hp} {σ : St} {e : En} {A : List Addr} {ds : List PyData} {e' : En} {R : It → Hp → Prop}, Stt K m G H σ e A → f e = some (ds, e') →
    (∀ (G' H' : Hp) (A' : List Addr) (J : It), Step A G H A' G' H' → Stt K m' G' H' σ e' A' → WalkD K G' J ds → ds.length ≤ sizeLine → R J H') → wi σ H R
structure PIt {ι : Type} (Xf : ι → Cx) (K : PySem.W.Frag) (m : List Ty) (tg iter : Expr) (f : Lf) (m' : List Ty) : Prop where
  ex : ∃ wi : TI, (∀ i, PI (Xf i) tg iter wi) ∧ DI K m wi f m'

section
variable {K : PySem.W.Frag} {G H : Hp} {m : List Ty} {σ : St} {e : En} {A : List Addr}
theorem walkD_list {a : Addr} {xs : List V} {ds : List PyData} (hr : Rd G a (.lst xs)) (q : DqA K G xs ds) : WalkD K G (Itl K a) ds := by
  have l := q.1
  refine ⟨fun i H hi s => ⟨xs, xs[i]'(by omega), .inl (same_rd s hr), List.getElem?_eq_getElem (by omega)⟩, fun H s => ⟨xs, .inl (same_rd s hr), by omega⟩, fun {i H x H' m G' σ e A} hi s st y => ?_⟩
  obtain ⟨rfl, y⟩ := y
  refine ⟨G', Step.refl, st, Same.refl _, fun d hd => ?_⟩
  have hx := y xs (.inl (same_rd (s.trans st.sub) hr))
  exact (q.2 i x d hx hd).mono s
theorem walkD_tup {a : Addr} {xs : List V} {ds : List PyData} (hr : SqT K G a xs) (q : DqA K G xs ds) : WalkD K G (Itt K a) ds := by
  have l := q.1
  refine ⟨fun i H hi s => ⟨xs, xs[i]'(by omega), same_seqT s hr, List.getElem?_eq_getElem (by omega)⟩, fun H s => ⟨xs, same_seqT s hr, by omega⟩, fun {i H x H' m G' σ e A} hi s st y => ?_⟩
  obtain ⟨rfl, y⟩ := y
  refine ⟨G', Step.refl, st, Same.refl _, fun d hd => ?_⟩
  have hx := y xs (same_seqT (s.trans st.sub) hr)
  exact (q.2 i x d hx hd).mono s
def rngD (lo : Int) (n : Nat) : List PyData := (List.range n).map fun i => .int (lo + (i : Nat))
theorem rngD_len (lo : Int) (n : Nat) : (rngD lo n).length = n := by simp [rngD]
theorem walkD_range {lo : Int} {n : Nat} : WalkD K G (Itr lo n) (rngD lo n) := by
  refine ⟨fun i H hi _ => by rw [rngD_len] at hi; exact hi, fun H _ => by rw [rngD_len]; exact Nat.le_refl n, fun {i H x H' m G' σ e A} hi s st y => ?_⟩
  obtain ⟨rfl, rfl⟩ := y
  refine ⟨G', Step.refl, st, Same.refl _, fun d hd => ?_⟩
  rw [rngD_len] at hi
  unfold rngD at hd
  rw [List.getElem?_map, List.getElem?_range hi] at hd
  cases hd
  exact .int _
def enumD : Nat → List PyData → List PyData
  | _, [] => []
  | k, d :: r => .tuple [.int (k : Nat), d] :: enumD (k + 1) r
theorem enumD_len : ∀ (k : Nat) (ds : List PyData), (enumD k ds).length = ds.length
  | _, [] => rfl
  | k, d :: r => by simp [enumD, enumD_len (k + 1) r]
theorem enumD_get : ∀ (k : Nat) (ds : List PyData) (i : Nat) (d : PyData), (enumD k ds)[i]? = some d → ∃ d0, ds[i]? = some d0 ∧ d = .tuple [.int ((k + i : Nat) : Int), d0]
  | _, [], i, d, h => by simp [enumD] at h
  | k, d0 :: r, 0, d, h => by simp [enumD] at h; exact ⟨d0, rfl, by simpa using h.symm⟩
  | k, d0 :: r, i + 1, d, h => by
    obtain ⟨d1, h1, h2⟩ := enumD_get (k + 1) r i d (by simpa [enumD] using h)
    exact ⟨d1, by simpa using h1, by rw [h2]; congr 3; omega⟩
/-- a new stable pair -/
theorem pair_new {p : Addr} {x y : V} {dx dy : PyData} (st : Stt K m G H σ e A) (hp : H p = none) (hx : Dq K G x dx) (hy : Dq K G y dy) :
    ∃ G', Step A G H A G' (upd H p (.tup [x, y])) ∧ Stt K m G' (upd H p (.tup [x, y])) σ e A ∧ Same G G' ∧ Dq K G' (.ref p) (.tuple [dx, dy]) := by
  obtain ⟨s1, st1, sg⟩ := new_s (o := .tup [x, y]) st hp
  have q : DqA K (upd G p (.tup [x, y])) [x, y] [dx, dy] := (hx.mono sg |> fun a => DqA.cons a (DqA.cons (hy.mono sg) DqA.nil))
  exact ⟨_, s1, st1, sg, .tup (SqT.of upd_same) q.1 (by show 2 ≤ sizeLine; decide) q.2⟩
theorem walkD_enumL {a : Addr} {xs : List V} {ds : List PyData} (hr : Rd G a (.lst xs)) (q : DqA K G xs ds) : WalkD K G (Ite K a) (enumD 0 ds) := by
  have l := q.1
  refine ⟨fun i H hi s => ?_, fun H s => ⟨xs, .inl (same_rd s hr), by rw [enumD_len]; omega⟩, fun {i H x H' m G' σ e A} hi s st y => ?_⟩
  · rw [enumD_len] at hi
    exact ⟨xs, xs[i]'(by omega), .inl (same_rd s hr), List.getElem?_eq_getElem (by omega)⟩
  · obtain ⟨T, z, rfl, hT, rfl, hz⟩ := y
    rw [enumD_len] at hi
    have hx := hz xs (.inl (same_rd (s.trans st.sub) hr))
    have qz := (q.2 i z _ hx (List.getElem?_eq_getElem hi)).mono s
    obtain ⟨G2, s2, st2, sg2, q2⟩ := pair_new st hT (.int ((i : Nat) : Int)) qz
    refine ⟨G2, s2, st2, sg2, fun d hd => ?_⟩
    obtain ⟨d0, h1, rfl⟩ := enumD_get 0 ds i d hd
    rw [List.getElem?_eq_getElem hi] at h1
    cases h1
    rw [Nat.zero_add]; exact q2
theorem walkD_enumT {a : Addr} {xs : List V} {ds : List PyData} (hr : SqT K G a xs) (q : DqA K G xs ds) : WalkD K G (IteT K a) (enumD 0 ds) := by
  have l := q.1
  refine ⟨fun i H hi s => ?_, fun H s => ⟨xs, same_seqT s hr, by rw [enumD_len]; omega⟩, fun {i H x H' m G' σ e A} hi s st y => ?_⟩
  · rw [enumD_len] at hi
    exact ⟨xs, xs[i]'(by omega), same_seqT s hr, List.getElem?_eq_getElem (by omega)⟩
  · obtain ⟨T, z, rfl, hT, rfl, hz⟩ := y
    rw [enumD_len] at hi
    have hx := hz xs (same_seqT (s.trans st.sub) hr)
    have qz := (q.2 i z _ hx (List.getElem?_eq_getElem hi)).mono s
    obtain ⟨G2, s2, st2, sg2, q2⟩ := pair_new st hT (.int ((i : Nat) : Int)) qz
    refine ⟨G2, s2, st2, sg2, fun d hd => ?_⟩
    obtain ⟨d0, h1, rfl⟩ := enumD_get 0 ds i d hd
    rw [List.getElem?_eq_getElem hi] at h1
    cases h1
    rw [Nat.zero_add]; exact q2
def zipD : List PyData → List PyData → List PyData
  | a :: as, b :: bs => .tuple [a, b] :: zipD as bs
  | _, _ => []
theorem zipD_len : ∀ (as bs : List PyData), (zipD as bs).length = min as.length bs.length
  | [], _ => by simp [zipD]
  | _ :: _, [] => by simp [zipD]
  | a :: as, b :: bs => by simp [zipD, zipD_len as bs]
theorem zipD_get : ∀ (as bs : List PyData) (i : Nat) (d : PyData), (zipD as bs)[i]? = some d → ∃ x y, as[i]? = some x ∧ bs[i]? = some y ∧ d = .tuple [x, y]
  | [], _, i, d, h => by simp [zipD] at h
  | _ :: _, [], i, d, h => by simp [zipD] at h
  | a :: as, b :: bs, 0, d, h => by simp [zipD] at h; exact ⟨a, b, rfl, rfl, h.symm⟩
  | a :: as, b :: bs, i + 1, d, h => by
    obtain ⟨x, y, h1, h2, h3⟩ := zipD_get as bs i d (by simpa [zipD] using h)
    exact ⟨x, y, by simpa using h1, by simpa using h2, h3⟩
theorem walkD_zipL {a b : Addr} {xs ys : List V} {ds es : List PyData} (hr : Rd G a (.lst xs)) (q : DqA K G xs ds) (hr2 : Rd G b (.lst ys)) (q2 : DqA K G ys es) : WalkD K G (Itz K a b) (zipD ds es) := by
  have l := q.1
  have l2 := q2.1
  refine ⟨fun i H hi s => ?_, fun H s => ⟨xs, ys, .inl (same_rd s hr), .inl (same_rd s hr2), by rw [zipD_len]; omega⟩, fun {i H x H' m G' σ e A} hi s st y => ?_⟩
  · rw [zipD_len] at hi
    exact ⟨xs, ys, xs[i]'(by omega), ys[i]'(by omega), .inl (same_rd s hr), .inl (same_rd s hr2), List.getElem?_eq_getElem (by omega), List.getElem?_eq_getElem (by omega)⟩
  · obtain ⟨T, z, z2, rfl, hT, rfl, hz, hz2⟩ := y
    have hx := hz xs (.inl (same_rd (s.trans st.sub) hr))
    have hy := hz2 ys (.inl (same_rd (s.trans st.sub) hr2))
    obtain ⟨d, hd⟩ : ∃ d, (zipD ds es)[i]? = some d := ⟨_, List.getElem?_eq_getElem hi⟩
    obtain ⟨dx, dy, h1, h2, rfl⟩ := zipD_get _ _ _ _ hd
    obtain ⟨G2, s2, st2, sg2, q3⟩ := pair_new st hT ((q.2 i z _ hx h1).mono s) ((q2.2 i z2 _ hy h2).mono s)
    exact ⟨G2, s2, st2, sg2, fun d' hd' => by rw [hd] at hd'; cases hd'; exact q3⟩
theorem walkD_zipT {a b : Addr} {xs ys : List V} {ds es : List PyData} (hr : SqT K G a xs) (q : DqA K G xs ds) (hr2 : SqT K G b ys) (q2 : DqA K G ys es) : WalkD K G (RZ.ItzT K a b) (zipD ds es) := by
  have l := q.1
  have l2 := q2.1
  refine ⟨fun i H hi s => ?_, fun H s => ⟨xs, ys, same_seqT s hr, same_seqT s hr2, by rw [zipD_len]; omega⟩, fun {i H x H' m G' σ e A} hi s st y => ?_⟩
  · rw [zipD_len] at hi
    exact ⟨xs, ys, xs[i]'(by omega), ys[i]'(by omega), same_seqT s hr, same_seqT s hr2, List.getElem?_eq_getElem (by omega), List.getElem?_eq_getElem (by omega)⟩
  · obtain ⟨T, z, z2, rfl, hT, rfl, hz, hz2⟩ := y
    have hx := hz xs (same_seqT (s.trans st.sub) hr)
    have hy := hz2 ys (same_seqT (s.trans st.sub) hr2)
    obtain ⟨d, hd⟩ : ∃ d, (zipD ds es)[i]? = some d := ⟨_, List.getElem?_eq_getElem hi⟩
    obtain ⟨dx, dy, h1, h2, rfl⟩ := zipD_get _ _ _ _ hd
    obtain ⟨G2, s2, st2, sg2, q3⟩ := pair_new st hT ((q.2 i z _ hx h1).mono s) ((q2.2 i z2 _ hy h2).mono s)
    exact ⟨G2, s2, st2, sg2, fun d' hd' => by rw [hd] at hd'; cases hd'; exact q3⟩
end

/-! ### iterables -/
def seqD : PyData → Option (List PyData)
  | .list xs => some xs
  | .tuple xs => some xs
  | _ => none
def iSeq (f : Ef) : Lf := fun e => (f e).bind fun p => (seqD p.1).bind fun ds => some (ds, p.2)
def iEn (f : Ef) : Lf := fun e => (f e).bind fun p => (seqD p.1).bind fun ds => some (enumD 0 ds, p.2)
def zipS : PyData → PyData → Option (List PyData)
  | .list xs, .list ys => some (zipD xs ys)
  | .tuple xs, .tuple ys => some (zipD xs ys)
  | _, _ => none
def iZp (f g : Ef) : Lf := fun e => (f e).bind fun p => (g p.2).bind fun q => (zipS p.1 q.1).bind fun ds => some (ds, q.2)
def rng1 : PyData → Option (List PyData)
  | .int j => if j.toNat ≤ sizeLine ∧ -(2 ^ 62) ≤ j ∧ j < 2 ^ 62 then some (rngD 0 j.toNat) else none
  | _ => none
def rng2 : PyData → PyData → Option (List PyData)
  | .int i, .int j => if (j - i).toNat ≤ sizeLine ∧ -(2 ^ 62) ≤ i ∧ i < 2 ^ 62 ∧ -(2 ^ 62) ≤ j ∧ j < 2 ^ 62 then some (rngD i (j - i).toNat) else none
  | _, _ => none
def iR1 (f : Ef) : Lf := fun e => (f e).bind fun p => (rng1 p.1).bind fun ds => some (ds, p.2)
def iR2 (f g : Ef) : Lf := fun e => (f e).bind fun p => (g p.2).bind fun q => (rng2 p.1 q.1).bind fun ds => some (ds, q.2)

section
variable {ι : Type} {Xf : ι → Cx} {P : Program} {w : World} {K : PySem.W.Frag} {mg : Str → Option Value} {base : Heap} {n : Nat} [F : Fam Xf P w K mg base n]
variable {m m1 m2 m3 : List Ty} {pos p p2 tpos : Pos} {a b c tg : Expr} {elts : List Expr} {kk : Nat} {f g h : Ef}
include F
theorem pi_seq (ha : PD Xf K m a .s f m1) : PIt Xf K m tg a (iSeq f) m1 := by
  obtain ⟨ta, pa, da⟩ := ha.ex
  refine ⟨_, fun i => PI.or (by have := pi_list (tg := tg) (pa i); rw [F.kk i] at this; exact this) (by have := pi_tup (tg := tg) (pa i); rw [F.kk i] at this; exact this), fun {G H σ e A ds e' R} st hf k => ?_⟩
  unfold iSeq at hf
  obtain ⟨⟨d1, e1⟩, hf1, hf⟩ := Option.bind_eq_some_iff.mp hf
  obtain ⟨ds1, hf2, hf⟩ := Option.bind_eq_some_iff.mp hf
  cases hf
  cases d1 with
  | list xs =>
    cases hf2
    refine .inl (da st hf1 fun G1 H1 v1 A1 B1 s1 st1 o1 nd1 => ?_)
    cases o1 with
    | s q1 =>
      obtain ⟨a, vs, rfl, r1, z1, qq⟩ := dq_lst q1
      exact ⟨a, rfl, ⟨vs, .inl (same_rd st1.sub r1)⟩, k _ _ _ _ s1 st1 (walkD_list r1 qq) (by rw [← qq.1]; exact z1)⟩
  | tuple xs =>
    cases hf2
    refine .inr (da st hf1 fun G1 H1 v1 A1 B1 s1 st1 o1 nd1 => ?_)
    cases o1 with
    | s q1 =>
      obtain ⟨a, vs, rfl, r1, z1, qq⟩ := dq_tup q1
      exact ⟨a, rfl, ⟨vs, same_seqT st1.sub r1⟩, k _ _ _ _ s1 st1 (walkD_tup r1 qq) (by rw [← qq.1]; exact z1)⟩
  | _ => cases hf2
theorem pi_r1 (hm : mg "range" = none) (ha : PD Xf K m a .s f m1) (hg : ∀ i, Gl (Xf i) "range" := by intro _; rfl) (hs : ∀ i, starEach [a] (Xf i).env = [(false, eval a (Xf i).env)] := by intro _; rfl) : PIt Xf K m tg (.Call (.Name "range" p) [a] [] pos) (iR1 f) m1 := by
  obtain ⟨ta, pa, da⟩ := ha.ex
  refine ⟨_, fun i => pi_range1 (hg i) (by rw [F.mg_ i]; exact hm) (pa_cons (pa i) pa_nil (hs i)) (hs i), fun {G H σ e A ds e' R} st hf k => ?_⟩
  unfold iR1 at hf
  obtain ⟨⟨d1, e1⟩, hf1, hf⟩ := Option.bind_eq_some_iff.mp hf
  obtain ⟨ds1, hf2, hf⟩ := Option.bind_eq_some_iff.mp hf
  cases hf
  refine da st hf1 fun G1 H1 v1 A1 B1 s1 st1 o1 nd1 => ?_
  cases o1 with
  | s q1 =>
    cases d1 with
    | int j =>
      obtain ⟨hz, rfl⟩ := ite_some hf2
      replace hz := And.intro hz.2.1 (And.intro hz.2.2 hz.1)
      obtain rfl := dq_int q1
      exact ⟨j, rfl, hz.1, hz.2.1, k _ _ _ _ s1 st1 walkD_range (by rw [rngD_len]; exact hz.2.2)⟩
    | _ => cases hf2
theorem pi_r2 (hm : mg "range" = none) (ha : PD Xf K m a .s f m1) (hb : PD Xf K m1 b .s g m2) (hg : ∀ i, Gl (Xf i) "range" := by intro _; rfl) (hs : ∀ i, starEach [a, b] (Xf i).env = [(false, eval a (Xf i).env), (false, eval b (Xf i).env)] := by intro _; rfl) (hs2 : ∀ i, starEach [b] (Xf i).env = [(false, eval b (Xf i).env)] := by intro _; rfl) :
    PIt Xf K m tg (.Call (.Name "range" p) [a, b] [] pos) (iR2 f g) m2 := by
  obtain ⟨ta, pa, da⟩ := ha.ex
  obtain ⟨tb, pb, db⟩ := hb.ex
  refine ⟨_, fun i => pi_range2 (hg i) (by rw [F.mg_ i]; exact hm) (pa_cons (pa i) (pa_cons (pb i) pa_nil (hs2 i)) (by rw [hs i, hs2 i])) (hs i) (hs2 i), fun {G H σ e A ds e' R} st hf k => ?_⟩
  unfold iR2 at hf
  obtain ⟨⟨d1, e1⟩, hf1, hf⟩ := Option.bind_eq_some_iff.mp hf
  obtain ⟨⟨d2, e2⟩, hf2, hf⟩ := Option.bind_eq_some_iff.mp hf
  obtain ⟨ds1, hf3, hf⟩ := Option.bind_eq_some_iff.mp hf
  cases hf
  refine da st hf1 fun G1 H1 v1 A1 B1 s1 st1 o1 nd1 => ?_
  cases o1 with
  | s q1 =>
    refine db st1 hf2 fun G2 H2 v2 A2 B2 s2 st2 o2 nd2 => ?_
    cases o2 with
    | s q2 =>
      have hf3 : rng2 d1 d2 = some ds := hf3
      unfold rng2 at hf3
      split at hf3
      · obtain ⟨hz, rfl⟩ := ite_some hf3
        replace hz := And.intro hz.2.1 (And.intro hz.2.2.1 (And.intro hz.2.2.2.1 (And.intro hz.2.2.2.2 hz.1)))
        obtain rfl := dq_int q1
        obtain rfl := dq_int q2
        exact ⟨_, _, rfl, ⟨hz.1, hz.2.1, hz.2.2.1, hz.2.2.2.1⟩, k _ _ _ _ (s1.seq0 s2) st2 walkD_range (by rw [rngD_len]; exact hz.2.2.2.2)⟩
      · cases hf3
theorem pi_en (hm : mg "enumerate" = none) (ha : PD Xf K m a .s f m1) (hg : ∀ i, Gl (Xf i) "enumerate" := by intro _; rfl) (hs : ∀ i, starEach [a] (Xf i).env = [(false, eval a (Xf i).env)] := by intro _; rfl) : PIt Xf K m (.Tuple elts kk tpos) (.Call (.Name "enumerate" p) [a] [] pos) (iEn f) m1 := by
  obtain ⟨ta, pa, da⟩ := ha.ex
  refine ⟨_, fun i => PI.or (by have := L2.pi_enum (elts := elts) (kk := kk) (tpos := tpos) (p := p) (pos := pos) (hg i) (by rw [F.mg_ i]; exact hm) (pa_cons (pa i) pa_nil (hs i)) (hs i); rw [F.kk i] at this; exact this)
    (by have := pi_enumT (elts := elts) (kk := kk) (tpos := tpos) (p := p) (pos := pos) (hg i) (by rw [F.mg_ i]; exact hm) (pa_cons (pa i) pa_nil (hs i)) (hs i); rw [F.kk i] at this; exact this), fun {G H σ e A ds e' R} st hf k => ?_⟩
  unfold iEn at hf
  obtain ⟨⟨d1, e1⟩, hf1, hf⟩ := Option.bind_eq_some_iff.mp hf
  obtain ⟨ds1, hf2, hf⟩ := Option.bind_eq_some_iff.mp hf
  cases hf
  cases d1 with
  | list xs =>
    cases hf2
    refine .inl (da st hf1 fun G1 H1 v1 A1 B1 s1 st1 o1 nd1 => ?_)
    cases o1 with
    | s q1 =>
      obtain ⟨a, vs, rfl, r1, z1, qq⟩ := dq_lst q1
      exact ⟨a, vs, rfl, .inl (same_rd st1.sub r1), k _ _ _ _ s1 st1 (walkD_enumL r1 qq) (by rw [enumD_len, ← qq.1]; exact z1)⟩
  | tuple xs =>
    cases hf2
    refine .inr (da st hf1 fun G1 H1 v1 A1 B1 s1 st1 o1 nd1 => ?_)
    cases o1 with
    | s q1 =>
      obtain ⟨a, vs, rfl, r1, z1, qq⟩ := dq_tup q1
      exact ⟨a, vs, rfl, same_seqT st1.sub r1, k _ _ _ _ s1 st1 (walkD_enumT r1 qq) (by rw [enumD_len, ← qq.1]; exact z1)⟩
  | _ => cases hf2
theorem pi_zp (hm : mg "zip" = none) (ha : PD Xf K m a .s f m1) (hb : PD Xf K m1 b .s g m2) (hg : ∀ i, Gl (Xf i) "zip" := by intro _; rfl) (hs : ∀ i, starEach [a, b] (Xf i).env = (false, eval a (Xf i).env) :: starEach [b] (Xf i).env := by intro _; rfl) (hs2 : ∀ i, starEach [b] (Xf i).env = (false, eval b (Xf i).env) :: starEach [] (Xf i).env := by intro _; rfl)
    (hpl : ∀ i, (backTo pos (starEach [b] (Xf i).env)).any (·.1) = false := by intro _; rfl) : PIt Xf K m (.Tuple elts kk tpos) (.Call (.Name "zip" p) [a, b] [] pos) (iZp f g) m2 := by
  obtain ⟨ta, pa, da⟩ := ha.ex
  obtain ⟨tb, pb, db⟩ := hb.ex
  refine ⟨RZ.iZipA K (tCons ta (tCons tb tNil)), fun i => (by have := RZ.pi_zipA (elts := elts) (kk := kk) (tpos := tpos) (p := p) (pos := pos) (hg i) (by rw [F.mg_ i]; exact hm) (pa_cons (pa i) (pa_cons (pb i) pa_nil (hs2 i)) (hs i)) (hs i) (hpl i); rw [F.kk i] at this; exact this), fun {G H σ e A ds e' R} st hf k => ?_⟩
  unfold iZp at hf
  obtain ⟨⟨d1, e1⟩, hf1, hf⟩ := Option.bind_eq_some_iff.mp hf
  obtain ⟨⟨d2, e2⟩, hf2, hf⟩ := Option.bind_eq_some_iff.mp hf
  obtain ⟨ds1, hf3, hf⟩ := Option.bind_eq_some_iff.mp hf
  cases hf
  refine da st hf1 fun G1 H1 v1 A1 B1 s1 st1 o1 nd1 => ?_
  cases o1 with
  | s q1 =>
    refine db st1 hf2 fun G2 H2 v2 A2 B2 s2 st2 o2 nd2 => ?_
    cases o2 with
    | s q2 =>
      have q1' := q1.mono s2.sg
      have hf3 : zipS d1 d2 = some ds := hf3
      unfold zipS at hf3
      split at hf3
      · cases hf3
        obtain ⟨a, xs, rfl, r1, z1, w1⟩ := dq_lst q1'
        obtain ⟨b, ys, rfl, r2, z2, w2⟩ := dq_lst q2
        refine ⟨a, b, xs, ys, rfl, .inl ⟨.inl (same_rd st2.sub r1), .inl (same_rd st2.sub r2), k _ _ _ _ (s1.seq0 s2) st2 (walkD_zipL r1 w1 r2 w2) ?_⟩⟩
        rw [zipD_len]; have := w1.1; omega
      · cases hf3
        obtain ⟨a, xs, rfl, r1, z1, w1⟩ := dq_tup q1'
        obtain ⟨b, ys, rfl, r2, z2, w2⟩ := dq_tup q2
        refine ⟨a, b, xs, ys, rfl, .inr ⟨same_seqT st2.sub r1, same_seqT st2.sub r2, k _ _ _ _ (s1.seq0 s2) st2 (walkD_zipT r1 w1 r2 w2) ?_⟩⟩
        rw [zipD_len]; have := w1.1; omega
      · cases hf3
end
end DL

namespace DL
open PySem L2 PySem.Spec

/-! ### targets -/
abbrev Gf := PyData → En → Option En
abbrev Gsf := List PyData → En → Option En
def DG (K : PySem.W.Frag) (m : List Ty) (g : TG) (sl : List Nat) (gf : Gf) (m' : List Ty) : Prop :=
  ∀ {G H : Hp} {σ : St} {e : En} {A : List Addr} {x : V} {d : PyData} {e' : En} {Q : St → Hp → Prop}, Stt K m G H σ e A → Dq K G x d → gf d e = some e' →
    (∀ (G' H' : Hp) (σ' : St) (A' : List Addr), Step A G H A' G' H' → Stt K m' G' H' σ' e' A' → (∀ j, j ∉ sl → σ'[j]? = σ[j]?) → σ'.length = σ.length → Q σ' H') → g x σ H Q
def DGs (K : PySem.W.Frag) (m : List Ty) (g : TGs) (sl : List Nat) (gf : Gsf) (m' : List Ty) : Prop :=
  ∀ {G H : Hp} {σ : St} {e : En} {A : List Addr} {xs : List V} {ds : List PyData} {e' : En} {Q : St → Hp → Prop}, Stt K m G H σ e A → DqA K G xs ds → gf ds e = some e' →
    (∀ (G' H' : Hp) (σ' : St) (A' : List Addr), Step A G H A' G' H' → Stt K m' G' H' σ' e' A' → (∀ j, j ∉ sl → σ'[j]? = σ[j]?) → σ'.length = σ.length → Q σ' H') → g xs σ H Q
structure PGD {ι : Type} (Xf : ι → Cx) (K : PySem.W.Frag) (m : List Ty) (tg : Expr) (sl : List Nat) (gf : Gf) (m' : List Ty) : Prop where
  ex : ∃ g : TG, (∀ i, PG (Xf i) tg g) ∧ DG K m g sl gf m'
structure PGDs {ι : Type} (Xf : ι → Cx) (K : PySem.W.Frag) (m : List Ty) (tgs : List Expr) (sl : List Nat) (gf : Gsf) (m' : List Ty) : Prop where
  ex : ∃ g : TGs, (∀ i, PGs (Xf i) tgs g) ∧ DGs K m g sl gf m'
def gNm (j : Nat) : Gf := fun d e => some (e.set j d)
def gsNil : Gsf := fun ds e => match ds with | [] => some e | _ => none
def gsCons (g : Gf) (r : Gsf) : Gsf := fun ds e => match ds with | d :: ds => (g d e).bind fun e' => r ds e' | [] => none
def gTp (k : Nat) (r : Gsf) : Gf := fun d e => match d with | .tuple ds => if ds.length = k then r ds e else none | _ => none

section
variable {K : PySem.W.Frag} {G H : Hp}
/-- a slot given an owned (or stable) value -/
theorem stt_set {m : List Ty} {σ : St} {e : En} {A Av : List Addr} {j : Nat} {t : Ty} {d : PyData} {v : V} (st : Stt K m G H σ e A) (hj : j < m.length) (o : Own K G H t d (some v) Av) (nd : (Av ++ A).Nodup) :
    ∃ A', Stt K (m.set j t) G H (σ.set j (some v)) (e.set j d) A' ∧ ∀ a ∈ A', a ∈ Av ++ A := by
  obtain ⟨A0, h0, B, hp⟩ := ownA_hide st.own j
  obtain ⟨A', o', p'⟩ := ownA_put h0 (by rw [List.getElem?_set_self hj]) o
  rw [List.set_set] at o'
  have inA : ∀ a ∈ A0, a ∈ A := fun a h => hp.mem_iff.mpr (List.mem_append_right _ h)
  have n := List.nodup_append.mp nd
  have nA := List.nodup_append.mp (hp.nodup_iff.mp n.2.1)
  refine ⟨A', ⟨o', p'.nodup_iff.mpr (List.nodup_append.mpr ⟨n.1, nA.2.1, fun a ha b hb z => n.2.2 a ha b (inA b hb) z⟩), st.sub⟩, fun a ha => ?_⟩
  rcases List.mem_append.mp (p'.mem_iff.mp ha) with z | z
  · exact List.mem_append_left _ z
  · exact List.mem_append_right _ (inA a z)
end
section
variable {ι : Type} {Xf : ι → Cx} {P : Program} {w : World} {K : PySem.W.Frag} {mg : Str → Option Value} {base : Heap} {n : Nat} [F : Fam Xf P w K mg base n]
variable {m m1 m2 m3 : List Ty} {pos p p2 tpos : Pos} {a b c tg : Expr} {tgs : List Expr} {elts : List Expr} {kk : Nat} {sl sl2 : List Nat} {gf : Gf} {gs : Gsf}
include F in
theorem pg_nm (j : Nat) {x : Str} (hj : j < m.length := by decide) (hi : ∀ i, (Xf i).N[j]? = some x := by intro _; rfl) (hx : ∀ i, Loc (Xf i).env.scope x := by first | (intro _; exact Or.inl rfl) | (intro _; exact Or.inr rfl))
    (hf : ∀ i, (Xf i).fn x = true ∨ (Xf i).env.scope.names.lookup x = some .local := by first | (intro _; exact Or.inl rfl) | (intro _; exact Or.inr rfl)) : PGD Xf K m (.Name x pos) [j] (gNm j) (m.set j .s) := by
  refine ⟨gName j, fun i => pg_name (F.nd i) (hi i) (hx i) (hf i), fun {G H σ e A x d e' Q} st q hf k => ?_⟩
  cases hf
  obtain ⟨A', st', hA⟩ := stt_set st hj (.s q) (Av := []) st.nd
  exact k G H _ A' ⟨Same.refl G, fun a o h _ => h, fun a ha => .inl (hA a ha), fun a h1 ⟨o, h2⟩ => by rw [h1] at h2; cases h2⟩ st' (fun i hi => by rw [List.getElem?_set_ne]; intro z; exact hi (by simp [z])) (by simp)
theorem pgs_nl : PGDs Xf K m [] [] gsNil m := by
  refine ⟨gNil, fun i => pgs_nil, fun {G H σ e A xs ds e' Q} st q hf k => ?_⟩
  unfold gsNil at hf
  cases ds with
  | nil =>
    cases hf
    exact ⟨List.length_eq_zero_iff.mp q.1, k G H σ A Step.refl st (fun _ _ => rfl) rfl⟩
  | cons _ _ => cases hf
theorem pgs_cn (h1 : PGD Xf K m a sl gf m1) (h2 : PGDs Xf K m1 tgs sl2 gs m2) (hs : ∀ i, (assignEach (a :: tgs) (Xf i).env).map (·.snd) = assign a (Xf i).env :: (assignEach tgs (Xf i).env).map (·.snd) := by intro _; rfl) : PGDs Xf K m (a :: tgs) (sl ++ sl2) (gsCons gf gs) m2 := by
  obtain ⟨g1, p1, d1⟩ := h1.ex
  obtain ⟨g2, p2, d2⟩ := h2.ex
  refine ⟨gCons g1 g2, fun i => pgs_cons (p1 i) (p2 i) (hs i), fun {G H σ e A xs ds e' Q} st q hf k => ?_⟩
  cases ds with
  | nil => cases hf
  | cons d ds =>
    obtain ⟨e1, hf1, hf⟩ := Option.bind_eq_some_iff.mp (show (gf d e).bind _ = _ from hf)
    cases xs with
    | nil => have := q.1; simp at this
    | cons v vs =>
      refine ⟨v, vs, rfl, d1 st q.head hf1 fun G1 H1 σ1 A1 s1 st1 k1 l1 => d2 st1 (q.tail.mono s1.sg) hf fun G2 H2 σ2 A2 s2 st2 k2 l2 => k _ _ _ _ (s1.seq0 s2) st2 (fun j hj => ?_) (l2.trans l1)⟩
      rw [k2 j (fun z => hj (List.mem_append_right _ z)), k1 j (fun z => hj (List.mem_append_left _ z))]
include F in
theorem pg_tp {k : Nat} (h : PGDs Xf K m elts sl gs m1) (hk : elts.length = k := by rfl) {kk : Nat} (hpg : ∀ i {t : TGs}, PGs (Xf i) elts t → PG (Xf i) (.Tuple elts kk tpos) (gTup (Xf i).K k t) := by intro i t h; exact pg_tup (by rfl) h) : PGD Xf K m (.Tuple elts kk tpos) sl (gTp k gs) m1 := by
  obtain ⟨g, p, d⟩ := h.ex
  refine ⟨gTup K k g, fun i => by have := hpg i (p i); rw [F.kk i] at this; exact this, fun {G H σ e A x dd e' Q} st q hf kont => ?_⟩
  cases dd with
  | tuple ds =>
    have hf : (if ds.length = k then gs ds e else none) = some e' := hf
    split at hf
    · rename_i hl
      obtain ⟨a, xs, rfl, r1, z1, qq⟩ := dq_tup q
      exact ⟨a, xs, rfl, same_seqT st.sub r1, by rw [qq.1]; exact hl, d st qq hf kont⟩
    · cases hf
  | _ => cases hf
end

/-! ### comprehensions -/
structure BI (ι : Type) where
  i : ι
  s : Shared
  H : Hp
  C : Addr
  cl : List (Str × Addr)
  fp : List Addr
def blkF {ι : Type} (Xf : ι → Cx) (scope : Scope) : BI ι → Cx := fun b => (Xf b.i).blk b.s b.H scope (compEnvC scope b.cl b.C (Xf b.i).env) b.fp
instance {ι : Type} {Xf : ι → Cx} {P : Program} {w : World} {K : PySem.W.Frag} {mg : Str → Option Value} {base : Heap} {n : Nat} [F : Fam Xf P w K mg base n] {scope : Scope} : Fam (blkF Xf scope) P w K mg base n :=
  ⟨fun b => F.prog b.i, fun b => F.w_ b.i, fun b => F.kk b.i, fun b => F.mg_ b.i, fun b => F.base_ b.i, fun b => F.room b.i, fun b => F.calm b.i, fun b => F.nd b.i⟩
instance {ι : Type} {Xf : ι → Cx} [F : FamG Xf] {scope : Scope} : FamG (blkF Xf scope) := ⟨fun b => F.gd b.i⟩

def hideM (m : List Ty) : List Nat → List Ty
  | [] => m
  | v :: vs => (hideM m vs).set v .u
def restE (e : En) (e' : En) : List Nat → En
  | [] => e'
  | v :: vs => restE e (e'.set v (e.getD v .none)) vs
def usB (m : List Ty) : List Nat → Bool
  | [] => true
  | v :: vs => (match m[v]? with | some .u => true | some .s => true | _ => false) && decide (v ∉ vs) && usB m vs
section
variable {K : PySem.W.Frag} {G H : Hp}
theorem ownA_set0 {ts : List Ty} {ds : List PyData} {vs : List (Option V)} {A : List Addr} (h : OwnA K G H ts ds vs A) {j : Nat} (hj : ts[j]? = some .u ∨ ts[j]? = some .s) {t : Ty} {d : PyData} {v : Option V} (o : Own K G H t d v []) :
    OwnA K G H (ts.set j t) (ds.set j d) (vs.set j v) A := by
  induction ts generalizing ds vs A j with
  | nil => cases h; simpa using OwnA.nil
  | cons t0 ts ih =>
    cases h with
    | @cons _ _ d0 ds v0 vs A B h1 h2 =>
      cases j with
      | zero =>
        have hA : A = [] := by
          rcases hj with hj | hj <;> (simp at hj; subst hj; cases h1; rfl)
        subst hA
        simpa using OwnA.cons o h2
      | succ j => simpa using OwnA.cons h1 (ih h2 (by simpa using hj))
theorem hideM_get {m : List Ty} {j : Nat} : ∀ {vs : List Nat}, j ∉ vs → (hideM m vs)[j]? = m[j]?
  | [], _ => rfl
  | v :: vs, h => by
    unfold hideM
    rw [List.getElem?_set_ne (fun z => h (by simp [z])), hideM_get fun z => h (List.mem_cons_of_mem _ z)]
theorem us_cons {m : List Ty} {v : Nat} {vs : List Nat} (h : usB m (v :: vs) = true) : (m[v]? = some .u ∨ m[v]? = some .s) ∧ v ∉ vs ∧ usB m vs = true := by
  unfold usB at h
  simp only [Bool.and_eq_true, decide_eq_true_eq] at h
  refine ⟨?_, h.1.2, h.2⟩
  have h1 := h.1.1
  split at h1 <;> simp_all
theorem wipeA {m : List Ty} {e : En} {σ : St} {A : List Addr} (h : OwnA K G H m e σ A) : ∀ {vs : List Nat}, usB m vs = true → OwnA K G H (hideM m vs) e (wipe σ vs) A
  | [], _ => h
  | v :: vs, us => by
    obtain ⟨h1, h2, h3⟩ := us_cons us
    have ih := wipeA h h3
    unfold hideM wipe
    have hv : (hideM m vs)[v]? = some .u ∨ (hideM m vs)[v]? = some .s := by rw [hideM_get h2]; exact h1
    have hl := ownA_len ih
    have hlt : v < e.length := by
      have : v < (hideM m vs).length := by rcases hv with z | z <;> exact (List.getElem?_eq_some_iff.mp z).1
      omega
    have := ownA_set0 (t := .u) (d := e[v]) (v := none) ih hv (.u _ _)
    rw [set_id (List.getElem?_eq_getElem hlt)] at this
    exact this
theorem unwipeA {m : List Ty} {e0 : En} {σ : St} {G0 : Hp} {A0 : List Addr} {H0 : Hp} (h0 : OwnA K G0 H0 m e0 σ A0) (sg : Same G0 G) : ∀ {vs : List Nat} {e' : En} {A : List Addr}, usB m vs = true → OwnA K G H (hideM m vs) e' (wipe σ vs) A → OwnA K G H m (restE e0 e' vs) σ A
  | [], _, _, _, h => h
  | v :: vs, e', A, us, h => by
    obtain ⟨h1, h2, h3⟩ := us_cons us
    unfold hideM wipe at h
    unfold restE
    have hv : (hideM m vs)[v]? = m[v]? := hideM_get h2
    obtain ⟨t, ht⟩ : ∃ t, m[v]? = some t := by rcases h1 with z | z <;> exact ⟨_, z⟩
    obtain ⟨d, x, Aj, B0, k1, k2, k3, _, _⟩ := ownA_take h0 ht
    have hA : Aj = [] := by
      rcases h1 with z | z <;> (rw [ht] at z; cases z; cases k3; rfl)
    subst hA
    have k3' : Own K G H t d x [] := by
      rcases h1 with z | z
      · rw [ht] at z; cases z; exact .u _ _
      · rw [ht] at z; cases z
        cases k3 with
        | s q => exact .s (q.mono sg)
    have hlv : v < (hideM m vs).length := by rw [← hv] at ht; exact (List.getElem?_eq_some_iff.mp ht).1
    have key := ownA_set0 h (j := v) (.inl (by simp [hlv])) k3'
    rw [List.set_set, set_id (by rw [hv]; exact ht), List.set_set] at key
    have ex : (wipe σ vs).set v x = wipe σ vs := by
      apply set_id
      rw [wipe_out h2]; exact k2
    rw [ex] at key
    have ed : e0.getD v .none = d := by rw [List.getD_eq_getElem?_getD, k1]; rfl
    rw [ed]
    exact unwipeA h0 sg h3 key
theorem ownA_snoc {ts : List Ty} {ds : List PyData} {vs : List (Option V)} {A : List Addr} (h : OwnA K G H ts ds vs A) {t : Ty} {d : PyData} {v : Option V} {B : List Addr} (o : Own K G H t d v B) : OwnA K G H (ts ++ [t]) (ds ++ [d]) (vs ++ [v]) (A ++ B) := by
  induction ts generalizing ds vs A with
  | nil => cases h; simpa using OwnA.cons o .nil
  | cons t0 ts ih =>
    cases h with
    | cons h1 h2 => rw [List.append_assoc]; exact .cons h1 (ih h2)
theorem wipe_in {σ : St} {j : Nat} : ∀ {vs : List Nat}, j ∈ vs → j < σ.length → (wipe σ vs)[j]? = some none
  | v :: vs, h, hl => by
    unfold wipe
    by_cases q : v = j
    · subst q; rw [List.getElem?_set_self (by rw [wipe_length]; exact hl)]
    · rw [List.getElem?_set_ne q]
      rcases List.mem_cons.mp h with z | z
      · exact absurd z.symm q
      · exact wipe_in z hl
theorem wipe_eq {σ σ2 : St} {vs sl : List Nat} (hs : ∀ j ∈ sl, j ∈ vs) (h : ∀ j, j ∉ sl → σ2[j]? = (wipe σ vs)[j]?) (hl : σ2.length = (wipe σ vs).length) : wipe σ2 vs = wipe σ vs := by
  apply List.ext_getElem?
  intro j
  rw [wipe_length] at hl
  by_cases hv : j ∈ vs
  · by_cases hj : j < σ.length
    · rw [wipe_in hv (by omega), wipe_in hv hj]
    · rw [List.getElem?_eq_none (by rw [wipe_length]; omega), List.getElem?_eq_none (by rw [wipe_length]; omega)]
  · rw [wipe_out hv, h j (fun z => hv (hs j z))]
end

def lcL (vs : List Nat) (gf : Gf) (tf : Bf) (ef : Ef) : List PyData → En → Option (List PyData × En)
  | [], e => some ([], e)
  | d :: ds, e => (gf d e).bind fun e1 => (tf e1).bind fun p => if p.1 = true then (ef p.2).bind fun q => (lcL vs gf tf ef ds (restE e q.2 vs)).bind fun r => some (q.1 :: r.1, r.2) else lcL vs gf tf ef ds (restE e p.2 vs)
def eLc (it : Lf) (vs : List Nat) (gf : Gf) (tf : Bf) (ef : Ef) : Ef := fun e => (it e).bind fun p => (lcL vs gf tf ef p.1 p.2).bind fun q => some (.list q.1, restE p.2 q.2 vs)
def bYes : Bf := fun e => some (true, e)
structure PTsD {ι : Type} (Xf : ι → Cx) (K : PySem.W.Frag) (m : List Ty) (ifs : List Expr) (f : Bf) : Prop where
  ex : ∃ tt : TT, (∀ i, PTs (Xf i) ifs tt) ∧ DT K m tt f m
theorem pts_no {ι : Type} {Xf : ι → Cx} {K : PySem.W.Frag} {m : List Ty} : PTsD Xf K m [] bYes := ⟨tYes, fun i => pts_nil, fun st hf k => by cases hf; exact k _ _ _ Step.refl st⟩
theorem pts_if {ι : Type} {Xf : ι → Cx} {K : PySem.W.Frag} {m : List Ty} {c : Expr} {f : Bf} (h : PB Xf K m c f m) : PTsD Xf K m [c] f := by
  obtain ⟨t, p, d⟩ := h.ex
  exact ⟨t, fun i => pts_one (p i), d⟩

/-- what stands while a comprehension runs -/
structure LcI (K : PySem.W.Frag) (mh : List Ty) (ty : Ty) (A1 : List Addr) (G1 H1 : Hp) (D : Addr) (ws : St) (Gc Hc : Hp) (e : En) (A Aa : List Addr) (acc : List V) (da : List PyData) : Prop where
  step : Step A1 G1 H1 (D :: (Aa ++ A)) Gc Hc
  st : Stt K mh Gc Hc ws e A
  atD : Hc D = some (.lst acc)
  gD : Gc D = none
  own : OwnA K Gc Hc (List.replicate da.length ty) da (acc.map some) Aa
  nd : (D :: (Aa ++ A)).Nodup
section
variable {K : PySem.W.Frag} {mh m2 : List Ty} {ty : Ty} {A1 : List Addr} {G1 H1 : Hp} {D : Addr} {ws : St}
theorem LcI.move {Gc Hc : Hp} {e : En} {A Aa : List Addr} {acc : List V} {da : List PyData} (I : LcI K mh ty A1 G1 H1 D ws Gc Hc e A Aa acc da) {B : List Addr} {G2 H2 : Hp} (s : Step A Gc Hc B G2 H2) (ndB : B.Nodup) :
    Step A1 G1 H1 (D :: (Aa ++ B)) G2 H2 ∧ (D :: (Aa ++ B)).Nodup ∧ H2 D = some (.lst acc) ∧ G2 D = none ∧ OwnA K G2 H2 (List.replicate da.length ty) da (acc.map some) Aa := by
  have o1 : ∀ a ∈ D :: Aa, Gc a = none ∧ ∃ o, Hc a = some o := fun a ha => by
    rcases List.mem_cons.mp ha with rfl | ha
    · exact ⟨I.gD, _, I.atD⟩
    · exact ownA_at I.own a ha
  obtain ⟨s3, nd3, hg, hh⟩ := Step.seq (Av := D :: Aa) I.step o1 I.nd s ndB
  exact ⟨s3, nd3, by rw [hh D (List.mem_cons_self ..)]; exact I.atD, hg D (List.mem_cons_self ..), ownA_fr I.own s.sg (fun a ha => hg a (List.mem_cons_of_mem _ ha)) fun a ha => hh a (List.mem_cons_of_mem _ ha)⟩
end
section
variable {ι : Type} {Xf : ι → Cx} {P : Program} {w : World} {K : PySem.W.Frag} {mg : Str → Option Value} {base : Heap} {n : Nat} [F : Fam Xf P w K mg base n]
variable {m m1 m2 m3 : List Ty} {pos p p2 tpos : Pos} {elt iter tg : Expr} {ifs : List Expr} {scope : Scope} {own : List (Str × Nat)} {sl : List Nat} {gf : Gf} {it : Lf} {tf : Bf} {ef : Ef} {ty : Ty}
theorem DE.lc {wi : TI} {g : TG} {tt : TT} {te : TE} {vs : List Nat} (hi : DI K m wi it m1) (hg : DG K (hideM m1 vs) g sl gf m2) (ht : DT K m2 tt tf m2) (he : DE K m2 te ty ef m2) (us : usB m1 vs = true) (hs : ∀ j ∈ sl, j ∈ vs) (le : LeM m2 (hideM m1 vs)) :
    DE K m (tLc wi g tt te vs) (.l ty) (eLc it vs gf tf ef) m1 := by
  intro G H σ e A d e' Q st hf k
  unfold eLc at hf
  obtain ⟨⟨ds, e1⟩, hf1, hf⟩ := Option.bind_eq_some_iff.mp hf
  obtain ⟨⟨rs, ef1⟩, hf2, hf⟩ := Option.bind_eq_some_iff.mp hf
  cases hf
  refine hi st hf1 fun G1 H1 A1 J s1 st1 wk hz => ?_
  intro D hD
  have own1 := wipeA st1.own us
  have st1' : Stt K (hideM m1 vs) G1 H1 (wipe σ vs) e1 A1 := ⟨own1, st1.nd, st1.sub⟩
  obtain ⟨s2, st2, nd2, gD⟩ := new_o (o := .lst []) (B := []) st1' hD
  -- the word
  let T := fun (i : Nat) (Hc : Hp) => ∃ Gc ec A' Aa acc da r, LcI K (hideM m1 vs) ty A1 G1 H1 D (wipe σ vs) Gc Hc ec A' Aa acc da ∧ da.length ≤ i ∧ lcL vs gf tf ef (ds.drop i) ec = some (r, ef1) ∧ rs = da ++ r
  refine ⟨fun i mm Hc => mm = ds.length - i ∧ i ≤ ds.length ∧ T i Hc, ⟨ds.length, by omega, Nat.zero_le _, G1, e1, A1, [], [], [], rs, ⟨s2, st2, upd_same, gD, .nil, nd2⟩, Nat.le_refl _, hf2, rfl⟩, ?_⟩
  rintro i mm Hc ⟨rfl, hle, Gc, ec, A', Aa, acc, da, r, I, hda, hl, hrs⟩
  have sub1 : Same G1 Hc := I.step.sg.trans I.st.sub
  by_cases hi : i < ds.length
  · refine .inr ⟨wk.goes i Hc hi sub1, fun Hn => i < ds.length ∧ T (i + 1) Hn, fun Hn hn => ⟨ds.length - (i + 1), by omega, rfl, by omega, hn.2⟩, fun x Hy hy => ?_⟩
    obtain ⟨Gy, sy, sty, sgy, qy⟩ := wk.yields hi I.step.sg I.st hy
    have hd : ds.drop i = ds[i] :: ds.drop (i + 1) := List.drop_eq_getElem_cons hi
    rw [hd] at hl
    unfold lcL at hl
    obtain ⟨e2, hl1, hl⟩ := Option.bind_eq_some_iff.mp hl
    obtain ⟨⟨b, e3⟩, hl2, hl⟩ := Option.bind_eq_some_iff.mp hl
    refine hg sty (qy _ (List.getElem?_eq_getElem hi)) hl1 fun G3 H3 σ3 A3 s3 st3 k3 l3 => ⟨wipe_eq hs k3 l3, ?_⟩
    have wσ := wipe_eq hs k3 l3
    have usr : usB (hideM m1 vs) vs = true → True := fun _ => trivial
    refine ht st3 hl2 fun G4 H4 A4 s4 st4 => ?_
    have s34 := (sy.seq0 s3).seq0 s4
    -- the turn's end: the mask and the slots of the next turn
    have next : ∀ (G5 H5 : Hp) (A5 : List Addr) (e5 : En), Stt K m2 G5 H5 σ3 e5 A5 → ∃ G6 A6, Step A5 G5 H5 A6 G6 H5 ∧ Stt K (hideM m1 vs) G6 H5 (wipe σ vs) (restE ec e5 vs) A6 := fun G5 H5 A5 e5 st5 => by
      obtain ⟨G6, A6, s6, st6⟩ := stt_le le st5
      refine ⟨G6, A6, s6, ⟨?_, st6.nd, st6.sub⟩⟩
      have hidem : ∀ (us : List Nat) (e' : En) (σ' : St) {A : List Addr} {H : Hp} {G : Hp} {mm : List Ty}, OwnA K G H mm e' σ' A → (∀ v ∈ us, mm[v]? = some .u) → OwnA K G H mm (restE ec e' us) (wipe σ' us) A := by
        intro us
        induction us with
        | nil => intro e' σ' A H G mm h _; exact h
        | cons v us ih =>
          intro e' σ' A H G mm h hu
          unfold restE wipe
          have hv := hu v (List.mem_cons_self ..)
          have a := ownA_set0 (t := .u) (d := ec.getD v .none) (v := none) h (.inl hv) (.u _ _)
          rw [set_id hv] at a
          have b := ih _ _ a fun x hx => hu x (List.mem_cons_of_mem _ hx)
          -- wiping v first or last
          have c : wipe (σ'.set v none) us = (wipe σ' us).set v none := by
            clear ih a b hv hu h
            induction us with
            | nil => rfl
            | cons u us ihu =>
              unfold wipe
              rw [ihu]
              by_cases q : u = v
              · subst q; rfl
              · rw [List.set_comm _ _ (fun z => q z.symm)]
          rw [c] at b; exact b
      have hu : ∀ v ∈ vs, (hideM m1 vs)[v]? = some .u := by
        have aux : ∀ us : List Nat, usB m1 us = true → ∀ v ∈ us, (hideM m1 us)[v]? = some .u := by
          intro us
          induction us with
          | nil => intro _ v h; cases h
          | cons u us ih =>
            intro hus v hv
            obtain ⟨h1, h2, h3⟩ := us_cons hus
            unfold hideM
            by_cases q : u = v
            · subst q
              have : u < (hideM m1 us).length := by
                rw [← hideM_get (m := m1) h2] at h1
                rcases h1 with z | z <;> exact (List.getElem?_eq_some_iff.mp z).1
              simp [this]
            · rw [List.getElem?_set_ne q]
              rcases List.mem_cons.mp hv with z | z
              · exact absurd z.symm q
              · exact ih h3 v z
        exact aux vs us
      have := hidem vs e5 σ3 st6.own hu
      rw [wσ] at this
      exact this
    cases b with
    | true =>
      rw [if_pos rfl] at hl ⊢
      obtain ⟨⟨dy, e5⟩, hl3, hl⟩ := Option.bind_eq_some_iff.mp hl
      obtain ⟨⟨r', ef'⟩, hl4, hl⟩ := Option.bind_eq_some_iff.mp hl
      cases hl
      refine he st4 hl3 fun G5 H5 y Ay A5 s5 st5 o5 nd5 => ?_
      obtain ⟨G6, A6, s6, st6⟩ := next G5 H5 A5 e5 st5
      obtain ⟨s56, nd56, hg6, hh6⟩ := s5.seq (own_at o5) nd5 s6 st6.nd
      have o6 : Own K G6 H5 ty dy (some y) Ay := own_fr o5 s6.sg hg6 fun a ha => rfl
      obtain ⟨s7, nd7, atD, gD7, own7⟩ := I.move (s34.seq0 s56) nd56
      have hacc : acc.length = da.length := by have := (ownA_len I.own).2; simpa using this
      have hz' : acc.length < sizeLine := by
        omega
      refine ⟨acc, atD, hz', hi, G6, restE ec e5 vs, A6, Aa ++ Ay, acc ++ [y], da ++ [dy], r', ?_, by simp; omega, hl4, by rw [hrs]; simp⟩
      have nD : ∀ a ∈ Aa ++ (Ay ++ A6), a ≠ D := fun a ha z => (List.nodup_cons.mp nd7).1 (z ▸ ha)
      have frD : ∀ a, a ≠ D → upd H5 D (.lst (acc ++ [y])) a = H5 a := fun a ha => upd_ne ha
      refine ⟨⟨s7.sg, fun a o h ha => ?_, fun a ha => s7.own a (by simpa [List.append_assoc] using ha), s7.gnew⟩, ⟨ownA_fr st6.own (Same.refl _) (fun a ha => (ownA_at st6.own a ha).1) fun a ha => frD a (nD a (by simp [ha])), st6.nd, fun b x hx => ?_⟩, upd_same, gD7, ?_, by simpa [List.append_assoc] using nd7⟩
      · rw [frD a (ne_of_none h hD)]; exact s7.fr a o h ha
      · rw [frD b (ne_of_none hx gD7)]; exact st6.sub b x hx
      · have a1 : OwnA K G6 (upd H5 D (.lst (acc ++ [y]))) (List.replicate da.length ty) da (acc.map some) Aa := ownA_fr own7 (Same.refl _) (fun a ha => (ownA_at own7 a ha).1) fun a ha => frD a (nD a (by simp [ha]))
        have a2 : Own K G6 (upd H5 D (.lst (acc ++ [y]))) ty dy (some y) Ay := own_fr o6 (Same.refl _) hg6 fun a ha => frD a (nD a (by simp [ha]))
        have a3 := ownA_snoc a1 a2
        rw [List.length_append, List.length_singleton, List.replicate_succ', List.map_append]
        exact a3
    | false =>
      rw [if_neg (by simp)] at hl ⊢
      obtain ⟨G6, A6, s6, st6⟩ := next G4 H4 A4 e3 st4
      obtain ⟨s7, nd7, atD, gD7, own7⟩ := I.move (s34.seq0 s6) st6.nd
      exact ⟨hi, G6, restE ec e3 vs, A6, Aa, acc, da, r, ⟨s7, st6, atD, gD7, own7, nd7⟩, by omega, hl, hrs⟩
  · have hie : i = ds.length := by omega
    subst hie
    refine .inl ⟨wk.stops Hc sub1, ?_⟩
    rw [List.drop_length] at hl
    cases hl
    rw [List.append_nil] at hrs
    subst hrs
    have un := unwipeA (e' := ef1) st1.own I.step.sg us I.st.own
    have nd := List.nodup_cons.mp I.nd
    refine k Gc Hc (.ref D) (D :: Aa) A' (s1.seq0 ⟨I.step.sg, I.step.fr, I.step.own, I.step.gnew⟩) ⟨un, I.st.nd, I.st.sub⟩ (.l I.gD I.atD ?_ I.own) I.nd
    have hacc := (ownA_len I.own).2
    rw [List.length_map] at hacc
    omega
include F in
theorem pd_lc (own : List (Str × Nat)) (hi : PIt Xf K m tg iter it m1) (hg : PGD (blkF Xf scope) K (hideM m1 (own.map (·.2))) tg sl gf m2) (ht : PTsD (blkF Xf scope) K m2 ifs tf) (he : PD (blkF Xf scope) K m2 elt ty ef m2)
    (ok : ∀ i, BlkOk (Xf i).N (Xf i).env.scope scope own := by intro _; exact blkOk_by (by rfl)) (us : usB m1 (own.map (·.2)) = true := by rfl) (hs : ∀ j ∈ sl, j ∈ own.map (·.2) := by decide) (le : LeM m2 (hideM m1 (own.map (·.2))) := by repeat (first | exact .nil | refine .cons (by first | exact .rfl _ | exact .u _) ?_))
    (hf : ∀ i x, foldedSetIterable iter (Xf i).env x = pure x := by intro _ _; rfl) : PD Xf K m (.ListComp elt [⟨tg, iter, ifs, 0⟩] scope pos) (.l ty) (eLc it (own.map (·.2)) gf tf ef) m1 := by
  obtain ⟨wi, pi, di⟩ := hi.ex
  obtain ⟨g, pg, dg⟩ := hg.ex
  obtain ⟨tt, pt, dt⟩ := ht.ex
  obtain ⟨te, pe, de⟩ := he.ex
  exact ⟨_, fun i => pe_lc (F.calm i) (F.nd i) (pi i) (ok i) (fun s H C cl fp => pg ⟨i, s, H, C, cl, fp⟩) (fun s H C cl fp => pt ⟨i, s, H, C, cl, fp⟩) (fun s H C cl fp => pe ⟨i, s, H, C, cl, fp⟩) (hf i), DE.lc di dg dt de us hs le⟩
end
end DL

namespace DL
open PySem L2 PySem.Spec

/-! ### quiet readings: the heap only grows, what is owned is looked at -/
abbrev Gq := En → Option PyData
def DQv (K : PySem.W.Frag) (m : List Ty) (te : TE) (g : Gq) : Prop :=
  ∀ {G H : Hp} {σ : St} {e : En} {A : List Addr} {d : PyData} {Q : VK}, Stt K m G H σ e A → g e = some d → (∀ (H' : Hp) (v : V), Same H H' → Dq K H' v d → Q v H') → te σ H Q
structure PQ {ι : Type} (Xf : ι → Cx) (K : PySem.W.Frag) (m : List Ty) (e : Expr) (g : Gq) : Prop where
  ex : ∃ te : TE, (∀ i, PE (Xf i) e te) ∧ DQv K m te g
def q1 (gg : PyData → Option PyData) (a : Gq) : Gq := fun e => (a e).bind gg
def q2 (gg : PyData → PyData → Option PyData) (a b : Gq) : Gq := fun e => (a e).bind fun x => (b e).bind fun y => gg x y
def qVar (j : Nat) : Gq := fun e => some (e.getD j .none)
def qC (d : PyData) : Gq := fun _ => some d
section
variable {K : PySem.W.Frag} {G H H' : Hp} {m : List Ty} {σ : St} {e : En} {A : List Addr}
theorem stt_grow (st : Stt K m G H σ e A) (s : Same H H') : Step A G H A G H' ∧ Stt K m G H' σ e A :=
  ⟨⟨Same.refl G, fun a o h _ => s a o h, fun a h => .inl h, fun a h1 ⟨o, h2⟩ => by rw [h1] at h2; cases h2⟩,
    ⟨ownA_fr st.own (Same.refl G) (fun a ha => (ownA_at st.own a ha).1) fun a ha => by obtain ⟨o, h⟩ := (ownA_at st.own a ha).2; rw [h, s a o h], st.nd, st.sub.trans s⟩⟩
theorem stt0 (K : PySem.W.Frag) (H : Hp) : Stt K [] H H [] [] [] := ⟨.nil, List.nodup_nil, Same.refl H⟩
theorem own_snap {t : Ty} {d : PyData} {v : Option V} {A : List Addr} (o : Own K G H t d v A) (s : Same G H) (hn : nou t = true) : ∃ x, v = some x ∧ Dq K H x d := own_frz o s (fun _ _ => rfl) hn
theorem D2.q {r : R2} {ty : Ty} {gg : PyData → PyData → Option PyData} (h : D2 K r ty gg) (hn : nou ty = true) {x y : V} {dx dy d : PyData} {Q : VK} (hx : Dq K H x dx) (hy : Dq K H y dy) (hg : gg dx dy = some d) (k : ∀ (H' : Hp) (v : V), Same H H' → Dq K H' v d → Q v H') : r x y H Q :=
  h (stt0 K H) hx hy hg fun G' H' v Av A' s st o _ => by
    obtain ⟨w, hw, q⟩ := own_snap o st.sub hn
    cases hw
    exact k H' v (fun a o ha => s.fr a o ha (by simp)) q
theorem D1.q {r : V → Hp → VK → Prop} {ty : Ty} {gg : PyData → Option PyData} (h : D1 K r ty gg) (hn : nou ty = true) {x : V} {dx d : PyData} {Q : VK} (hx : Dq K H x dx) (hg : gg dx = some d) (k : ∀ (H' : Hp) (v : V), Same H H' → Dq K H' v d → Q v H') : r x H Q :=
  h (stt0 K H) hx hg fun G' H' v Av A' s st o _ => by
    obtain ⟨w, hw, q⟩ := own_snap o st.sub hn
    cases hw
    exact k H' v (fun a o ha => s.fr a o ha (by simp)) q
theorem DQv.bin {ta tb : TE} {r : R2} {ty : Ty} {gg : PyData → PyData → Option PyData} {f g : Gq} (ha : DQv K m ta f) (hb : DQv K m tb g) (hr : D2 K r ty gg) (hn : nou ty = true) : DQv K m (tOp r ta tb) (q2 gg f g) := by
  intro G H σ e A d Q st hf k
  obtain ⟨x, h1, hf⟩ := Option.bind_eq_some_iff.mp hf
  obtain ⟨y, h2, hf⟩ := Option.bind_eq_some_iff.mp hf
  refine ha st h1 fun H1 v s1 qx => hb (stt_grow st s1).2 h2 fun H2 w s2 qy => hr.q hn (qx.mono s2) qy hf fun H3 z s3 qz => k H3 z ((s1.trans s2).trans s3) qz
end
section
variable {ι : Type} {Xf : ι → Cx} {P : Program} {w : World} {K : PySem.W.Frag} {mg : Str → Option Value} {base : Heap} {n : Nat} [F : Fam Xf P w K mg base n]
variable {m m1 m2 m3 : List Ty} {pos p p2 apos cpos : Pos} {a b c : Expr} {f g h : Gq} {ty t : Ty} {ts : List Ty}
theorem pq_var (j : Nat) {t : Ty} {x : Str} (hm : m[j]? = some t := by rfl) (hn : nou t = true := by rfl) (hN : ∀ i, (Xf i).N[j]? = some x := by intro _; rfl)
    (hv : ∀ i, Vis (Xf i).env.scope x := by first | (intro _; exact Or.inl rfl) | (intro _; exact Or.inr (Or.inl rfl)) | (intro _; exact Or.inr (Or.inr rfl))) (hd : (x == ("__debug__" : Str)) = false := by decide)
    (hcd : (x == ("__classdict__" : Str)) = false := by decide) : PQ Xf K m (.Name x pos) (qVar j) := by
  refine ⟨tVar j, fun i => pe_var (hN i) (hv i) hd hcd, fun {G H σ e A d Q} st hf k => ?_⟩
  obtain ⟨d', v, Aj, A0, h1, h2, h3, _, _⟩ := ownA_take st.own hm
  obtain ⟨x', hx, q⟩ := own_snap h3 st.sub hn
  subst hx
  cases hf
  rw [List.getD_eq_getElem?_getD, h1] at k
  exact ⟨x', h2, k H x' (Same.refl H) q⟩
theorem pq_int {i : Int} {j} : PQ Xf K m (.Constant (.int i) j pos) (qC (.int i)) := ⟨_, fun _ => pe_int, fun {G H σ e A d Q} st hf k => by cases hf; exact k H _ (Same.refl H) (.int i)⟩
theorem pq_bool {i : Bool} {j} : PQ Xf K m (.Constant (.bool i) j pos) (qC (.bool i)) := ⟨_, fun _ => pe_bl, fun {G H σ e A d Q} st hf k => by cases hf; exact k H _ (Same.refl H) (.bl i)⟩
theorem pq_none {j} : PQ Xf K m (.Constant .none j pos) (qC .none) := ⟨_, fun _ => pe_non, fun {G H σ e A d Q} st hf k => by cases hf; exact k H _ (Same.refl H) .non⟩
theorem pq_str {x : Str} {j} (hx : x.length ≤ sizeLine := by decide +kernel) : PQ Xf K m (.Constant (.str x) j pos) (qC (.str x)) := ⟨_, fun _ => pe_str, fun {G H σ e A d Q} st hf k => by cases hf; exact k H _ (Same.refl H) (.str x hx)⟩
/-- the new empty list, looked at only -/
theorem pq_nil : PQ Xf K m (.List [] pos) (qC (.list [])) := ⟨_, fun _ => pe_lst pa_nil, fun {G H σ e A d Q} st hf k => by
  cases hf
  refine ⟨Nat.zero_le _, fun p hp => k _ _ (fun b x hx => by rw [upd_ne (ne_of_none hx hp)]; exact hx) (.lst (.inl upd_same) rfl (Nat.zero_le _) fun i v d h _ => by simp at h)⟩⟩
theorem pq_bin {op : Operator} {gg : PyData → PyData → Option PyData} (ho : Op2 Xf K (binaryOp op) ty gg) (ha : PQ Xf K m a f) (hb : PQ Xf K m b g) (hn : nou ty = true := by rfl) : PQ Xf K m (.BinOp a op b pos) (q2 gg f g) := by
  obtain ⟨r, hr, dr⟩ := ho.ex
  obtain ⟨ta, pa, da⟩ := ha.ex
  obtain ⟨tb, pb, db⟩ := hb.ex
  exact ⟨_, fun i => pe_op (hr i) (pa i) (pb i), DQv.bin da db dr hn⟩
theorem pq_cmp {op : CmpOp} {gg : PyData → PyData → Option PyData} (ho : Op2 Xf K (compareOp op) ty gg) (ha : PQ Xf K m a f) (hb : PQ Xf K m b g) (hm : behindInMarks op b = false := by first | exact nomark _ | rfl) (hn : nou ty = true := by rfl) : PQ Xf K m (.Compare a [op] [b] pos) (q2 gg f g) := by
  obtain ⟨r, hr, dr⟩ := ho.ex
  obtain ⟨ta, pa, da⟩ := ha.ex
  obtain ⟨tb, pb, db⟩ := hb.ex
  exact ⟨_, fun i => pe_cmpR (hr i) (pa i) (pb i) hm, DQv.bin da db dr hn⟩
theorem pq_ix {gg : PyData → PyData → Option PyData} (ho : Ix2 Xf K ty gg) (ha : PQ Xf K m a f) (hb : PQ Xf K m b g) (hs : PlainIx b := by exact fun _ _ => rfl) (hn : nou ty = true := by rfl) : PQ Xf K m (.Subscript a b pos) (q2 gg f g) := by
  obtain ⟨r, hr, dr⟩ := ho.ex
  obtain ⟨ta, pa, da⟩ := ha.ex
  obtain ⟨tb, pb, db⟩ := hb.ex
  exact ⟨_, fun i => pe_ix (hr i) (pa i) (pb i) hs, DQv.bin da db dr hn⟩
/-- f(a), a built-in -/
theorem DQv.un {r : V → Hp → VK → Prop} {ta : TE} {gg : PyData → Option PyData} (da : DQv K m ta f) (dr : D1 K r ty gg) (hn : nou ty = true) : DQv K m (fun σ H Q => ta σ H fun x H1 => r x H1 Q) (q1 gg f) := by
  intro G H σ e A d Q st hf k
  obtain ⟨x, h1, hf⟩ := Option.bind_eq_some_iff.mp hf
  exact da st h1 fun H1 v s1 qx => dr.q hn qx hf fun H2 z s2 qz => k H2 z (s1.trans s2) qz
include F in
theorem pq_b1 {x : Str} {id : String} {gg : PyData → Option PyData} (hc : Cl1 Xf K (.builtin id) ty gg) (hm : mg x = none) (hv : bootBuiltins x = some (.builtin id)) (ha : PQ Xf K m a f) (hy : nou ty = true := by rfl) (hg : ∀ i, Gl (Xf i) x := by intro _; rfl)
    (hn : x ≠ "__name__" := by decide) (hdb : (x == ("__debug__" : Str)) = false := by decide) (he : ∀ i, starEach [a] (Xf i).env = (false, eval a (Xf i).env) :: starEach [] (Xf i).env := by intro _; rfl) (hpl : ∀ i, (backTo pos (starEach [] (Xf i).env)).any (·.1) = false := by intro _; rfl) : PQ Xf K m (.Call (.Name x p) [a] [] pos) (q1 gg f) := by
  obtain ⟨r, hr, dr⟩ := hc.ex
  obtain ⟨ta, pa, da⟩ := ha.ex
  exact ⟨_, fun i => pe_callB (hr i) (hg i) (by rw [F.mg_ i]; exact hm) hv (pa_cons (pa i) pa_nil (he i)) hn hdb (he i) (hpl i), DQv.un da dr hy⟩

/-! ### quiet readings taken up -/
def scD : PyData → Bool
  | .none | .bool _ | .int _ | .str _ => true
  | _ => false
theorem sc_any {K : PySem.W.Frag} {G H : Hp} {v : V} {d : PyData} (q : Dq K H v d) (h : scD d = true) : Dq K G v d := by
  cases q with
  | non => exact .non
  | bl b => exact .bl b
  | int i => exact .int i
  | str x hx => exact .str x hx
  | lst => cases h
  | tup => cases h
def eQ (g : Gq) : Ef := fun e => (g e).bind fun d => if scD d = true then some (d, e) else none
def bQ (g : Gq) : Bf := fun e => (g e).bind fun d => (gTruth d).map fun b => (b, e)
theorem pd_q (ha : PQ Xf K m a f) : PD Xf K m a .s (eQ f) m := by
  obtain ⟨ta, pa, da⟩ := ha.ex
  refine ⟨ta, pa, fun {G H σ e A d e' Q} st hf k => ?_⟩
  obtain ⟨x, h1, hf⟩ := Option.bind_eq_some_iff.mp hf
  obtain ⟨h2, h3⟩ := ite_some hf
  cases h3
  exact da st h1 fun H1 v s1 q => k G H1 v [] A (stt_grow st s1).1 (stt_grow st s1).2 (.s (sc_any q h2)) st.nd
include F in
theorem pb_q (ha : PQ Xf K m a f) (he : ∀ i whole, isTrue a (Xf i).env whole = (do let v ← whole; standAt a.pos; holding [v] (truthy v)) := by intro _ _; rfl) : PB Xf K m a (bQ f) m := by
  obtain ⟨ta, pa, da⟩ := ha.ex
  refine ⟨fun σ H Q => ta σ H fun x H' => ∃ k, TruV K x H' k ∧ Q k H', fun i => ?_, fun {G H σ e A b e' Q} st hf k => ?_⟩
  · have := pt_truth (X := Xf i) (pa i) (he i)
    rw [F.kk i] at this
    exact this
  · unfold bQ at hf
    obtain ⟨x, h1, hf⟩ := Option.bind_eq_some_iff.mp hf
    obtain ⟨b1, h2, h3⟩ := Option.map_eq_some_iff.mp hf
    cases h3
    exact da st h1 fun H1 v s1 q => ⟨_, truV_of q (Same.refl H1) h2, k _ _ _ (stt_grow st s1).1 (stt_grow st s1).2⟩
def bQT (g : Gq) : Bf := fun e => (g e).bind fun d => match d with | .bool b => some (b, e) | _ => none
theorem pb_qcmp {op : CmpOp} {gg : PyData → PyData → Option PyData} (ho : Op2 Xf K (compareOp op) .s gg) (ha : PQ Xf K m a f) (hb : PQ Xf K m b g) (hm : behindInMarks op b = false := by first | exact nomark _ | rfl) : PB Xf K m (.Compare a [op] [b] pos) (bQT (q2 gg f g)) m := by
  obtain ⟨r, hr, dr⟩ := ho.ex
  obtain ⟨ta, pa, da⟩ := ha.ex
  obtain ⟨tb, pb, db⟩ := hb.ex
  refine ⟨_, fun i => pt_cmpR (hr i) (pa i) (pb i) hm, fun {G H σ e A b e' Q} st hf k => ?_⟩
  obtain ⟨x, h1, hf⟩ := Option.bind_eq_some_iff.mp hf
  refine DQv.bin da db dr rfl st h1 fun H1 v s1 q => ?_
  cases q with
  | bl b1 => cases hf; exact ⟨_, rfl, k _ _ _ (stt_grow st s1).1 (stt_grow st s1).2⟩
  | _ => cases hf
end

/-! ### pure stable values: nothing is given up for them -/
def DPv (K : PySem.W.Frag) (m : List Ty) (te : TE) (g : Gq) : Prop :=
  ∀ {G H : Hp} {σ : St} {e : En} {A : List Addr} {d : PyData} {Q : VK}, Stt K m G H σ e A → g e = some d → (∀ (H' : Hp) (v : V), Same H H' → Dq K G v d → Q v H') → te σ H Q
structure PV {ι : Type} (Xf : ι → Cx) (K : PySem.W.Frag) (m : List Ty) (e : Expr) (g : Gq) : Prop where
  ex : ∃ te : TE, (∀ i, PE (Xf i) e te) ∧ DPv K m te g
def qS (g : Gq) : Gq := fun e => (g e).bind fun d => if scD d = true then some d else none
section
variable {ι : Type} {Xf : ι → Cx} {P : Program} {w : World} {K : PySem.W.Frag} {mg : Str → Option Value} {base : Heap} {n : Nat} [F : Fam Xf P w K mg base n]
variable {m m1 m2 m3 : List Ty} {pos p p2 apos cpos : Pos} {a b c : Expr} {f g h : Gq} {ty t : Ty} {ts : List Ty}
theorem pv_var (j : Nat) {x : Str} (hm : m[j]? = some .s := by rfl) (hN : ∀ i, (Xf i).N[j]? = some x := by intro _; rfl)
    (hv : ∀ i, Vis (Xf i).env.scope x := by first | (intro _; exact Or.inl rfl) | (intro _; exact Or.inr (Or.inl rfl)) | (intro _; exact Or.inr (Or.inr rfl))) (hd : (x == ("__debug__" : Str)) = false := by decide)
    (hcd : (x == ("__classdict__" : Str)) = false := by decide) : PV Xf K m (.Name x pos) (qVar j) := by
  refine ⟨tVar j, fun i => pe_var (hN i) (hv i) hd hcd, fun {G H σ e A d Q} st hf k => ?_⟩
  obtain ⟨d', v, h1, h2, h3⟩ := ownA_getS st.own hm
  cases hf
  rw [List.getD_eq_getElem?_getD, h1] at k
  exact ⟨v, h2, k H v (Same.refl H) h3⟩
theorem pv_q (ha : PQ Xf K m a f) : PV Xf K m a (qS f) := by
  obtain ⟨ta, pa, da⟩ := ha.ex
  refine ⟨ta, pa, fun {G H σ e A d Q} st hf k => ?_⟩
  obtain ⟨x, h1, hf⟩ := Option.bind_eq_some_iff.mp hf
  obtain ⟨h2, h3⟩ := ite_some hf
  cases h3
  exact da st h1 fun H1 v s1 q => k H1 v s1 (sc_any q h2)
/-- a variable's list handed on -/
theorem pd_mov (j : Nat) {x : Str} (hm : m[j]? = some t := by rfl) (hu : t ≠ .u := by exact fun z => nomatch z) (hN : ∀ i, (Xf i).N[j]? = some x := by intro _; rfl)
    (hv : ∀ i, Vis (Xf i).env.scope x := by first | (intro _; exact Or.inl rfl) | (intro _; exact Or.inr (Or.inl rfl)) | (intro _; exact Or.inr (Or.inr rfl))) (hd : (x == ("__debug__" : Str)) = false := by decide)
    (hcd : (x == ("__classdict__" : Str)) = false := by decide) : PD Xf K m (.Name x pos) t (eVar j) (m.set j .u) := by
  refine ⟨tVar j, fun i => pe_var (hN i) (hv i) hd hcd, fun {G H σ e A d e' Q} st hf k => ?_⟩
  obtain ⟨d', v, Aj, A0, h1, h2, h3, h4, hp⟩ := ownA_take st.own hm
  cases hf
  rw [List.getD_eq_getElem?_getD, h1] at k
  have nd := hp.nodup_iff.mp st.nd
  have hv : ∃ x, v = some x := by cases h3 with | u => exact absurd rfl hu | s => exact ⟨_, rfl⟩ | q => exact ⟨_, rfl⟩ | l => exact ⟨_, rfl⟩ | r => exact ⟨_, rfl⟩
  obtain ⟨x, rfl⟩ := hv
  exact ⟨x, h2, k G H x Aj A0 ⟨Same.refl G, fun a o h _ => h, fun a h => .inl (hp.mem_iff.mpr h), fun a h1 ⟨o, h2⟩ => by rw [h1] at h2; cases h2⟩ ⟨h4, (List.nodup_append.mp nd).2.1, st.sub⟩ h3 nd⟩
end

/-! ### places: an owned list within a variable -/
abbrev Pf := En → PyData → En
def DPl (K : PySem.W.Frag) (m : List Ty) (te : TE) (ty : Ty) (get : Gq) (put : Pf) : Prop :=
  ∀ {G H : Hp} {σ : St} {e : En} {A : List Addr} {d : PyData}, Stt K m G H σ e A → get e = some d → ∃ (a : Addr) (Ad Ar : List Addr), A.Perm (Ad ++ Ar) ∧ Own K G H ty d (some (.ref a)) Ad ∧
    (∀ {Q : VK}, (∀ H', Same H H' → Q (.ref a) H') → te σ H Q) ∧
    ∀ {G' H' : Hp} {d' : PyData} {Ad' : List Addr}, Same G G' → Own K G' H' ty d' (some (.ref a)) Ad' → (∀ b ∈ Ar, H' b = H b ∧ G' b = none) → ∃ A', OwnA K G' H' m (put e d') σ A' ∧ A'.Perm (Ad' ++ Ar)
structure PPl {ι : Type} (Xf : ι → Cx) (K : PySem.W.Frag) (m : List Ty) (e : Expr) (ty : Ty) (get : Gq) (put : Pf) : Prop where
  ex : ∃ te : TE, (∀ i, PE (Xf i) e te) ∧ DPl K m te ty get put
def lstTy : Ty → Bool
  | .l _ => true
  | .r _ => true
  | _ => false
def pVar (j : Nat) : Pf := fun e d => e.set j d
def itemD (d : PyData) (i : PyData) : Option PyData := match d, i with
  | .list ds, .int k => atI ds k
  | _, _ => none
def setD (d : PyData) (i : PyData) (x : PyData) : PyData := match d, i with
  | .list ds, .int k => match ixN ds.length k with
    | some j => .list (ds.set j x)
    | none => d
  | _, _ => d
def gSub1 (g gi : Gq) : Gq := fun e => (g e).bind fun d => (gi e).bind fun i => itemD d i
def pSub1 (g gi : Gq) (pt : Pf) : Pf := fun e x => pt e (setD ((g e).getD .none) ((gi e).getD .none) x)
section
variable {ι : Type} {Xf : ι → Cx} {P : Program} {w : World} {K : PySem.W.Frag} {mg : Str → Option Value} {base : Heap} {n : Nat} [F : Fam Xf P w K mg base n]
variable {m m1 m2 m3 : List Ty} {pos p p2 apos cpos : Pos} {a b c : Expr} {f g gi h : Gq} {pt : Pf} {ty t : Ty} {ts : List Ty}
theorem pp_var (j : Nat) {t : Ty} {x : Str} (hm : m[j]? = some t := by rfl) (hl : lstTy t = true := by rfl) (hN : ∀ i, (Xf i).N[j]? = some x := by intro _; rfl)
    (hv : ∀ i, Vis (Xf i).env.scope x := by first | (intro _; exact Or.inl rfl) | (intro _; exact Or.inr (Or.inl rfl)) | (intro _; exact Or.inr (Or.inr rfl))) (hd : (x == ("__debug__" : Str)) = false := by decide)
    (hcd : (x == ("__classdict__" : Str)) = false := by decide) : PPl Xf K m (.Name x pos) t (qVar j) (pVar j) := by
  refine ⟨tVar j, fun i => pe_var (hN i) (hv i) hd hcd, fun {G H σ e A d} st hf => ?_⟩
  obtain ⟨d', v, Aj, A0, h1, h2, h3, h4, hp⟩ := ownA_take st.own hm
  cases hf
  have ed : e.getD j .none = d' := by rw [List.getD_eq_getElem?_getD, h1]; rfl
  rw [ed]
  have hj : (m.set j .u)[j]? = some .u := by
    have := (List.getElem?_eq_some_iff.mp hm).1
    simp [this]
  obtain ⟨a, rfl⟩ : ∃ a : Addr, v = some (.ref a) := by
    cases h3 with
    | u => cases hl
    | s => cases hl
    | q => cases hl
    | l => exact ⟨_, rfl⟩
    | r => exact ⟨_, rfl⟩
  refine ⟨a, Aj, A0, hp, h3, fun {Q} k => ⟨_, h2, k H (Same.refl H)⟩, fun {G' H' d2 Ad'} sg o hr => ?_⟩
  obtain ⟨A', o', p'⟩ := ownA_put (ownA_fr h4 sg (fun b hb => (hr b hb).2) fun b hb => (hr b hb).1) hj o
  rw [List.set_set, set_id hm, set_id h2] at o'
  exact ⟨A', o', p'⟩
theorem repl_get {t : Ty} {n j : Nat} (h : j < n) : (List.replicate n t)[j]? = some t := by rw [List.getElem?_replicate, if_pos h]
theorem repl_set {t : Ty} {n j : Nat} : (List.replicate n t).set j t = List.replicate n t := by
  apply List.ext_getElem?
  intro i
  rw [List.getElem?_set]
  split
  · rename_i h; subst h; split
    · rw [List.getElem?_replicate]; simp_all
    · rw [List.getElem?_eq_none (by omega)]
  · rfl
/-- the inner list of a list of lists -/
theorem DPl.sub {te ti : TE} (hp : DPl K m te (.l t) g pt) (hi : DQv K m ti gi) (hl : lstTy t = true) : DPl K m (tOp (rIxL K) te ti) t (gSub1 g gi) (pSub1 g gi pt) := by
  intro G H σ e A d st hf
  obtain ⟨dl, h1, hf⟩ := Option.bind_eq_some_iff.mp hf
  obtain ⟨di, h2, hf⟩ := Option.bind_eq_some_iff.mp hf
  obtain ⟨a, Ad, Ar, hp1, o1, ev, back⟩ := hp st h1
  cases o1 with
  | @l _ _ vs ds A1 ga ha hz oA =>
    cases di with
    | int k =>
      have hf : (ixN ds.length k).bind (fun j => ds[j]?) = some d := hf
      obtain ⟨j, hj, hd⟩ := Option.bind_eq_some_iff.mp hf
      have hjl : j < ds.length := (List.getElem?_eq_some_iff.mp hd).1
      obtain ⟨d', v, Aj, A0, e1, e2, oj, oR, pj⟩ := ownA_take oA (j := j) (repl_get hjl)
      rw [hd] at e1; cases e1
      have len := (ownA_len oA).2
      rw [List.length_map] at len
      have hvj : ∃ w, v = some w ∧ vs[j]? = some w := by
        rw [List.getElem?_map] at e2
        obtain ⟨w, hw, e3⟩ := Option.map_eq_some_iff.mp e2
        exact ⟨w, e3.symm, hw⟩
      obtain ⟨w, rfl, hw⟩ := hvj
      obtain ⟨b, rfl⟩ : ∃ b : Addr, w = .ref b := by
        cases oj with
        | u => cases hl
        | s => cases hl
        | q => cases hl
        | l => exact ⟨_, rfl⟩
        | r => exact ⟨_, rfl⟩
      refine ⟨b, Aj, a :: (A0 ++ Ar), ?_, oj, fun {Q} kq => ?_, fun {G' H' d2 Ad'} sg o hr => ?_⟩
      · refine hp1.trans (List.perm_iff_count.mpr fun z => ?_)
        have := List.perm_iff_count.mp pj z
        simp only [List.count_append, List.count_cons, List.cons_append] at this ⊢
        omega
      · refine ev fun H1 s1 => hi (stt_grow st s1).2 h2 fun H2 x s2 q => ?_
        cases q with
        | int k =>
          refine ⟨a, vs, k, .ref b, rfl, rfl, .inl (.inl ((s1.trans s2) _ _ ha)), ?_, kq H2 (s1.trans s2)⟩
          unfold atI
          rw [len, hj]; exact hw
      · have hA0 : ∀ b ∈ A0, H' b = H b ∧ G' b = none := fun b hb => hr b (List.mem_cons_of_mem _ (List.mem_append_left _ hb))
        have hju : ((List.replicate ds.length t).set j .u)[j]? = some .u := by rw [List.getElem?_set_self (by rw [List.length_replicate]; exact hjl)]
        obtain ⟨A2, o2, p2⟩ := ownA_put (ownA_fr oR sg (fun b hb => (hA0 b hb).2) fun b hb => (hA0 b hb).1) hju o
        rw [List.set_set, repl_set, set_id e2] at o2
        have hra := hr a (List.mem_cons_self ..)
        have o3 : Own K G' H' (.l t) (.list (ds.set j d2)) (some (.ref a)) (a :: A2) := .l hra.2 (by rw [hra.1]; exact ha) hz (by rw [List.length_set]; exact o2)
        obtain ⟨A3, o4, p4⟩ := back sg o3 fun b hb => hr b (List.mem_cons_of_mem _ (List.mem_append_right _ hb))
        refine ⟨A3, ?_, p4.trans (List.perm_iff_count.mpr fun z => ?_)⟩
        · have : pSub1 g gi pt e d2 = pt e (.list (ds.set j d2)) := by
            show pt e (setD ((g e).getD .none) ((gi e).getD .none) d2) = _
            rw [h1, h2]
            show pt e (match ixN ds.length k with | some j => .list (ds.set j d2) | none => .list ds) = _
            rw [hj]
          rw [this]; exact o4
        · have := List.perm_iff_count.mp p2 z
          simp only [List.count_append, List.count_cons, List.cons_append] at this ⊢
          omega
    | _ => cases hf
/-- the k-th part of a record -/
theorem DPl.fld {te ti : TE} {k : Nat} (hp : DPl K m te (.r ts) g pt) (hi : DQv K m ti gi) (hk : ∀ e, gi e = some (.int (k : Nat))) (ht : ts[k]? = some t) (hl : lstTy t = true) : DPl K m (tOp (rIxL K) te ti) t (gSub1 g gi) (pSub1 g gi pt) := by
  intro G H σ e A d st hf
  obtain ⟨dl, h1, hf⟩ := Option.bind_eq_some_iff.mp hf
  obtain ⟨di, h2, hf⟩ := Option.bind_eq_some_iff.mp hf
  obtain ⟨a, Ad, Ar, hp1, o1, ev, back⟩ := hp st h1
  cases o1 with
  | @r _ _ vs ds A1 ga ha hz oA =>
    rw [hk e] at h2; cases h2
    have hf : (ixN ds.length ((k : Nat) : Int)).bind (fun j => ds[j]?) = some d := hf
    obtain ⟨j, hj, hd⟩ := Option.bind_eq_some_iff.mp hf
    have hjk : j = k := by
      have q := ixN_seq hj
      have q1 := q.1
      rw [seqIndex_of (by omega) (by omega)] at q1
      have := Option.some.inj q1
      omega
    subst hjk
    obtain ⟨d', v, Aj, A0, e1, e2, oj, oR, pj⟩ := ownA_take oA (j := j) ht
    rw [hd] at e1; cases e1
    have len := (ownA_len oA).2
    rw [List.length_map] at len
    have hvj : ∃ w, v = some w ∧ vs[j]? = some w := by
      rw [List.getElem?_map] at e2
      obtain ⟨w, hw, e3⟩ := Option.map_eq_some_iff.mp e2
      exact ⟨w, e3.symm, hw⟩
    obtain ⟨w, rfl, hw⟩ := hvj
    obtain ⟨b, rfl⟩ : ∃ b : Addr, w = .ref b := by
      cases oj with
      | u => cases hl
      | s => cases hl
      | q => cases hl
      | l => exact ⟨_, rfl⟩
      | r => exact ⟨_, rfl⟩
    refine ⟨b, Aj, a :: (A0 ++ Ar), ?_, oj, fun {Q} kq => ?_, fun {G' H' d2 Ad'} sg o hr => ?_⟩
    · refine hp1.trans (List.perm_iff_count.mpr fun z => ?_)
      have := List.perm_iff_count.mp pj z
      simp only [List.count_append, List.count_cons, List.cons_append] at this ⊢
      omega
    · refine ev fun H1 s1 => hi (stt_grow st s1).2 (hk e) fun H2 x s2 q => ?_
      cases q with
      | int =>
        refine ⟨a, vs, _, .ref b, rfl, rfl, .inl (.inl ((s1.trans s2) _ _ ha)), ?_, kq H2 (s1.trans s2)⟩
        unfold atI
        rw [len, hj]; exact hw
    · have hA0 : ∀ b ∈ A0, H' b = H b ∧ G' b = none := fun b hb => hr b (List.mem_cons_of_mem _ (List.mem_append_left _ hb))
      have hju : (ts.set j .u)[j]? = some .u := by rw [List.getElem?_set_self (List.getElem?_eq_some_iff.mp ht).1]
      obtain ⟨A2, o2, p2⟩ := ownA_put (ownA_fr oR sg (fun b hb => (hA0 b hb).2) fun b hb => (hA0 b hb).1) hju o
      rw [List.set_set, set_id ht, set_id e2] at o2
      have hra := hr a (List.mem_cons_self ..)
      have o3 : Own K G' H' (.r ts) (.list (ds.set j d2)) (some (.ref a)) (a :: A2) := .r hra.2 (by rw [hra.1]; exact ha) hz o2
      obtain ⟨A3, o4, p4⟩ := back sg o3 fun b hb => hr b (List.mem_cons_of_mem _ (List.mem_append_right _ hb))
      refine ⟨A3, ?_, p4.trans (List.perm_iff_count.mpr fun z => ?_)⟩
      · have : pSub1 g gi pt e d2 = pt e (.list (ds.set j d2)) := by
          show pt e (setD ((g e).getD .none) ((gi e).getD .none) d2) = _
          rw [h1, hk e]
          show pt e (match ixN ds.length ((j : Nat) : Int) with | some j => .list (ds.set j d2) | none => .list ds) = _
          rw [hj]
        rw [this]; exact o4
      · have := List.perm_iff_count.mp p2 z
        simp only [List.count_append, List.count_cons, List.cons_append] at this ⊢
        omega
include F in
theorem pp_sub (hp : PPl Xf K m a (.l t) g pt) (hi : PQ Xf K m b gi) (hl : lstTy t = true := by rfl) (hs : PlainIx b := by exact fun _ _ => rfl) : PPl Xf K m (.Subscript a b pos) t (gSub1 g gi) (pSub1 g gi pt) := by
  obtain ⟨ta, pa, da⟩ := hp.ex
  obtain ⟨tb, pb, db⟩ := hi.ex
  exact ⟨_, fun i => by have := pe_ix (ix_list (X := Xf i)) (pa i) (pb i) hs (pos := pos); rw [F.kk i] at this; exact this, DPl.sub da db hl⟩
include F in
theorem pp_fld (k : Nat) {j} {ki : Int} (hp : PPl Xf K m a (.r ts) g pt) (hk : ki = (k : Nat) := by rfl) (ht : ts[k]? = some t := by rfl) (hl : lstTy t = true := by rfl) : PPl Xf K m (.Subscript a (.Constant (.int ki) j p) pos) t (gSub1 g (qC (.int ki))) (pSub1 g (qC (.int ki)) pt) := by
  obtain ⟨ta, pa, da⟩ := hp.ex
  obtain ⟨tb, pb, db⟩ := (pq_int (Xf := Xf) (K := K) (m := m) (i := ki) (j := j) (pos := p)).ex
  exact ⟨_, fun i => by have := pe_ix (ix_list (X := Xf i)) (pa i) (pb i) (fun _ _ => rfl) (pos := pos); rw [F.kk i] at this; exact this, DPl.fld da db (fun e => by subst hk; rfl) ht hl⟩
end
end DL

namespace DL
open PySem L2 PySem.Spec

/-! ### statements over data -/
inductive Out where
  | nx | bk | ct | rt (d : PyData)
abbrev Sf := En → Option (Out × En)
structure Mk where
  b : List Ty
  c : List Ty
  r : List Ty
  po : List Nat
  ty : Ty
def Pin (po : List Nat) (σ σ' : St) : Prop := ∀ j ∈ po, σ'[j]? = σ[j]?
theorem Pin.refl {po : List Nat} {σ : St} : Pin po σ σ := fun _ _ => rfl
theorem Pin.trans {po : List Nat} {σ σ1 σ2 : St} (h : Pin po σ σ1) (k : Pin po σ1 σ2) : Pin po σ σ2 := fun j hj => (k j hj).trans (h j hj)
theorem Pin.set {po : List Nat} {σ : St} {j : Nat} {x : Option V} (h : j ∉ po) : Pin po σ (σ.set j x) := fun i hi => by rw [List.getElem?_set_ne]; intro z; exact h (z ▸ hi)
def Fin (K : PySem.W.Frag) (M : Mk) (mn : List Ty) (A : List Addr) (G H : Hp) (σ : St) (D : Ends) (e' : En) : Out → Prop
  | .nx => ∀ (G' H' : Hp) (σ' : St) (A' : List Addr), Step A G H A' G' H' → Stt K mn G' H' σ' e' A' → Pin M.po σ σ' → D.nx σ' H'
  | .bk => ∀ (G' H' : Hp) (σ' : St) (A' : List Addr), Step A G H A' G' H' → Stt K M.b G' H' σ' e' A' → Pin M.po σ σ' → D.bk σ' H'
  | .ct => ∀ (G' H' : Hp) (σ' : St) (A' : List Addr), Step A G H A' G' H' → Stt K M.c G' H' σ' e' A' → Pin M.po σ σ' → D.ct σ' H'
  | .rt d => ∀ (G' H' : Hp) (σ' : St) (v : V) (Av A' : List Addr), Step A G H (Av ++ A') G' H' → Stt K M.r G' H' σ' e' A' → Own K G' H' M.ty d (some v) Av → (Av ++ A').Nodup → Pin M.po σ σ' → D.rt v H'
def DS (K : PySem.W.Frag) (M : Mk) (m : List Ty) (t : TS) (f : Sf) (mn : List Ty) : Prop :=
  ∀ {G H : Hp} {σ : St} {e : En} {A : List Addr} {o : Out} {e' : En} {D : Ends}, Stt K m G H σ e A → f e = some (o, e') → Fin K M mn A G H σ D e' o → t D σ H
structure PSd {ι : Type} (Xf : ι → Cx) (K : PySem.W.Frag) (M : Mk) (m : List Ty) (st : Stmt) (f : Sf) (mn : List Ty) : Prop where
  ex : ∃ t : TS, (∀ i, PS (Xf i) st t) ∧ DS K M m t f mn
structure PSsd {ι : Type} (Xf : ι → Cx) (K : PySem.W.Frag) (M : Mk) (m : List Ty) (st : List Stmt) (f : Sf) (mn : List Ty) : Prop where
  ex : ∃ t : TS, (∀ i, PSs (Xf i) st t) ∧ DS K M m t f mn
class FamN {ι : Type} (Xf : ι → Cx) : Prop where
  ps : ∀ i, PassesOwn (model (Xf i).prog (Xf i).w) (Xf i).A (Xf i).env (Xf i).xe

/-- turns enough -/
def fuel : Nat := 1048576
def sNil : Sf := fun e => some (.nx, e)
def sSeq (f g : Sf) : Sf := fun e => (f e).bind fun p => match p.1 with
  | .nx => g p.2
  | o => some (o, p.2)
def sIf (c : Bf) (f g : Sf) : Sf := fun e => (c e).bind fun p => if p.1 = true then f p.2 else g p.2
def sRet (f : Ef) : Sf := fun e => (f e).map fun p => (.rt p.1, p.2)
def sBrk : Sf := fun e => some (.bk, e)
def sCnt : Sf := fun e => some (.ct, e)
def sRetN : Sf := fun e => some (.rt .none, e)
def sDrop (f : Ef) : Sf := fun e => (f e).map fun p => (.nx, p.2)
def sAsg (j : Nat) (f : Ef) : Sf := fun e => (f e).map fun p => (.nx, p.2.set j p.1)
def sTg (f : Ef) (g : Gf) : Sf := fun e => (f e).bind fun p => (g p.1 p.2).map fun e' => (.nx, e')
def sPar (i j : Nat) (f : Lf) : Sf := fun e => (f e).bind fun p => match p.1 with
  | [x, y] => some (.nx, (p.2.set i x).set j y)
  | _ => none
def sPar3 (i j l : Nat) (f : Lf) : Sf := fun e => (f e).bind fun p => match p.1 with
  | [x, y, z] => some (.nx, ((p.2.set i x).set j y).set l z)
  | _ => none
def forL (g : Gf) (f : Sf) : List PyData → En → Option (Out × En)
  | [], e => some (.nx, e)
  | d :: ds, e => (g d e).bind fun e1 => (f e1).bind fun p => match p.1 with
    | .nx => forL g f ds p.2
    | .ct => forL g f ds p.2
    | .bk => some (.nx, p.2)
    | .rt r => some (.rt r, p.2)
def sFor (it : Lf) (g : Gf) (f : Sf) : Sf := fun e => (it e).bind fun p => forL g f p.1 p.2
def whL (c : Bf) (f : Sf) : Nat → En → Option (Out × En)
  | 0, _ => none
  | k + 1, e => (c e).bind fun p => if p.1 = true then (f p.2).bind fun q => match q.1 with
    | .nx => whL c f k q.2
    | .ct => whL c f k q.2
    | .bk => some (.nx, q.2)
    | .rt r => some (.rt r, q.2) else some (.nx, p.2)
def sWh (fuel : Nat) (c : Bf) (f : Sf) : Sf := fun e => whL c f fuel e

section
variable {K : PySem.W.Frag} {M : Mk} {G H G1 H1 : Hp} {m m1 m2 mn : List Ty} {σ σ1 : St} {e : En} {A A1 : List Addr} {D : Ends} {e' : En} {o : Out} {t u : TS} {f g : Sf} {ef : Ef} {bf : Bf} {lf : Lf}
theorem Fin.back (s : Step A G H A1 G1 H1) (p : Pin M.po σ σ1) (h : Fin K M mn A G H σ D e' o) : Fin K M mn A1 G1 H1 σ1 D e' o := by
  cases o with
  | nx => exact fun G' H' σ' A' s' st' p' => h G' H' σ' A' (s.seq0 s') st' (p.trans p')
  | bk => exact fun G' H' σ' A' s' st' p' => h G' H' σ' A' (s.seq0 s') st' (p.trans p')
  | ct => exact fun G' H' σ' A' s' st' p' => h G' H' σ' A' (s.seq0 s') st' (p.trans p')
  | rt d => exact fun G' H' σ' v Av A' s' st' o' nd p' => h G' H' σ' v Av A' (s.seq0 s') st' o' nd (p.trans p')
/-- a value kept aside while a mask is weakened -/
theorem le_aside {v : V} {Av : List Addr} {ty : Ty} {d : PyData} (l : LeM m m1) (s : Step A G H (Av ++ A1) G1 H1) (st : Stt K m G1 H1 σ e A1) (ov : Own K G1 H1 ty d (some v) Av) (nd : (Av ++ A1).Nodup) :
    ∃ G2 A2, Step A G H (Av ++ A2) G2 H1 ∧ Stt K m1 G2 H1 σ e A2 ∧ Own K G2 H1 ty d (some v) Av ∧ (Av ++ A2).Nodup := by
  obtain ⟨G2, A2, s2, st2⟩ := stt_le l st
  obtain ⟨s3, nd3, hg, hh⟩ := s.seq (own_at ov) nd s2 st2.nd
  exact ⟨G2, A2, s3, st2, own_fr ov s2.sg hg fun _ _ => rfl, nd3⟩
theorem DS.le (h : DS K M m t f m1) (l : LeM m1 mn) : DS K M m t f mn := by
  intro G H σ e A o e' D st hf k
  refine h st hf ?_
  cases o with
  | nx =>
    intro G' H' σ' A' s' st' p'
    obtain ⟨G2, A2, s2, st2⟩ := stt_le l st'
    exact k G2 H' σ' A2 (s'.seq0 s2) st2 p'
  | bk => exact k
  | ct => exact k
  | rt d => exact k
theorem DS.pre (l : LeM m m1) (h : DS K M m1 t f mn) : DS K M m t f mn := by
  intro G H σ e A o e' D st hf k
  obtain ⟨G2, A2, s2, st2⟩ := stt_le l st
  exact h st2 hf (k.back s2 Pin.refl)
theorem DS.seq (h1 : DS K M m t f m1) (h2 : DS K M m1 u g mn) : DS K M m (tSeq t u) (sSeq f g) mn := by
  intro G H σ e A o e' D st hf k
  obtain ⟨⟨o1, e1⟩, hf1, hf⟩ := Option.bind_eq_some_iff.mp hf
  refine h1 st hf1 ?_
  cases o1 with
  | nx => exact fun G' H' σ' A' s' st' p' => h2 st' hf (k.back s' p')
  | bk => cases hf; exact k
  | ct => cases hf; exact k
  | rt d => cases hf; exact k
theorem DS.nil : DS K M m tNext sNil m := fun st hf k => by cases hf; exact k _ _ _ _ Step.refl st Pin.refl
theorem DS.ite {tc : TT} (hc : DT K m tc bf m1) (h1 : DS K M m1 t f mn) (h2 : DS K M m1 u g mn) : DS K M m (tIfS tc t u) (sIf bf f g) mn := by
  intro G H σ e A o e' D st hf k
  obtain ⟨⟨b, e1⟩, hf1, hf⟩ := Option.bind_eq_some_iff.mp hf
  refine hc st hf1 fun G1 H1 A1 s1 st1 => ?_
  cases b with
  | true => exact h1 st1 hf (k.back s1 Pin.refl)
  | false => exact h2 st1 hf (k.back s1 Pin.refl)
theorem DS.ret {te : TE} (he : DE K m te M.ty ef m1) (l : LeM m1 M.r) : DS K M m (tRet te) (sRet ef) mn := by
  intro G H σ e A o e' D st hf k
  obtain ⟨⟨d, e1⟩, hf1, hf⟩ := Option.map_eq_some_iff.mp hf
  cases hf
  refine he st hf1 fun G1 H1 v Av A1 s1 st1 o1 nd1 => ?_
  obtain ⟨G2, A2, s2, st2, o2, nd2⟩ := le_aside l s1 st1 o1 nd1
  exact k G2 H1 σ v Av A2 s2 st2 o2 nd2 Pin.refl
theorem DS.retN (ht : M.ty = .s) (l : LeM m M.r) : DS K M m tRetN sRetN mn := by
  intro G H σ e A o e' D st hf k
  cases hf
  obtain ⟨G2, A2, s2, st2⟩ := stt_le l st
  exact k G2 H σ .non [] A2 s2 st2 (by rw [ht]; exact .s .non) st2.nd Pin.refl
theorem DS.brk (l : LeM m M.b) : DS K M m tBreak sBrk mn := by
  intro G H σ e A o e' D st hf k
  cases hf
  obtain ⟨G2, A2, s2, st2⟩ := stt_le l st
  exact k G2 H σ A2 s2 st2 Pin.refl
theorem DS.cnt (l : LeM m M.c) : DS K M m tCont sCnt mn := by
  intro G H σ e A o e' D st hf k
  cases hf
  obtain ⟨G2, A2, s2, st2⟩ := stt_le l st
  exact k G2 H σ A2 s2 st2 Pin.refl
theorem DS.drop {te : TE} {ty : Ty} (he : DE K m te ty ef m1) : DS K M m (tDrop te) (sDrop ef) m1 := by
  intro G H σ e A o e' D st hf k
  obtain ⟨⟨d, e1⟩, hf1, hf⟩ := Option.map_eq_some_iff.mp hf
  cases hf
  exact he st hf1 fun G1 H1 v Av A1 s1 st1 o1 nd1 => k G1 H1 σ A1 (s1.less fun a h => List.mem_append_right _ h) st1 Pin.refl
theorem DS.asg {te : TE} {ty : Ty} {j : Nat} (he : DE K m te ty ef m1) (hj : j < m1.length) (hp : j ∉ M.po) : DS K M m (tAsg te (gName j)) (sAsg j ef) (m1.set j ty) := by
  intro G H σ e A o e' D st hf k
  obtain ⟨⟨d, e1⟩, hf1, hf⟩ := Option.map_eq_some_iff.mp hf
  cases hf
  refine he st hf1 fun G1 H1 v Av A1 s1 st1 o1 nd1 => ?_
  obtain ⟨A2, st2, hA⟩ := stt_set st1 hj o1 nd1
  exact k G1 H1 _ A2 (s1.less hA) st2 (Pin.set hp)
theorem DS.tg {te : TE} {tg : TG} {gf : Gf} {sl : List Nat} (he : DE K m te .s ef m1) (hg : DG K m1 tg sl gf m2) (hp : ∀ j ∈ M.po, j ∉ sl) : DS K M m (tAsg te tg) (sTg ef gf) m2 := by
  intro G H σ e A o e' D st hf k
  obtain ⟨⟨d, e1⟩, hf1, hf⟩ := Option.bind_eq_some_iff.mp hf
  obtain ⟨e2, hf2, hf⟩ := Option.map_eq_some_iff.mp hf
  cases hf
  refine he st hf1 fun G1 H1 v Av A1 s1 st1 o1 nd1 => ?_
  cases o1 with
  | s q1 => exact hg st1 q1 hf2 fun G2 H2 σ2 A2 s2 st2 hs hl => k G2 H2 σ2 A2 (s1.seq0 s2) st2 fun j hj => hs j (hp j hj)
theorem DS.par {ta : TA} {i j : Nat} (ha : DA K m ta [.s, .s] lf m1) (hi : i < m1.length) (hj : j < m1.length) (pi : i ∉ M.po) (pj : j ∉ M.po) : DS K M m (tPar i j ta) (sPar i j lf) ((m1.set i .s).set j .s) := by
  intro G H σ e A o e' D st hf k
  obtain ⟨⟨ds, e1⟩, hf1, hf⟩ := Option.bind_eq_some_iff.mp hf
  refine ha st hf1 fun G1 H1 vs Av A1 s1 st1 o1 nd1 => ?_
  obtain ⟨rfl, q⟩ := of_ownA (n := 2) o1
  match ds, hf, q with
  | [x, y], hf, q =>
    cases hf
    match vs, q with
    | [v, w], q =>
      have qv := q.head
      have qw := q.tail.head
      obtain ⟨A2, st2, hA2⟩ := stt_set st1 hi (.s qv) (Av := []) st1.nd
      obtain ⟨A3, st3, hA3⟩ := stt_set st2 (by rw [List.length_set]; exact hj) (.s qw) (Av := []) st2.nd
      exact ⟨v, w, rfl, k G1 H1 _ A3 (s1.less fun a h => hA2 a (hA3 a h)) st3 ((Pin.set pi).trans (Pin.set pj))⟩
theorem DS.par3 {ta : TA} {i j l : Nat} (ha : DA K m ta [.s, .s, .s] lf m1) (hi : i < m1.length) (hj : j < m1.length) (hl : l < m1.length) (pi : i ∉ M.po) (pj : j ∉ M.po) (pl : l ∉ M.po) : DS K M m (tPar3 i j l ta) (sPar3 i j l lf) (((m1.set i .s).set j .s).set l .s) := by
  intro G H σ e A o e' D st hf k
  obtain ⟨⟨ds, e1⟩, hf1, hf⟩ := Option.bind_eq_some_iff.mp hf
  refine ha st hf1 fun G1 H1 vs Av A1 s1 st1 o1 nd1 => ?_
  obtain ⟨rfl, q⟩ := of_ownA (n := 3) o1
  match ds, hf, q with
  | [x, y, z], hf, q =>
    cases hf
    match vs, q with
    | [v, w, u], q =>
      obtain ⟨A2, st2, hA2⟩ := stt_set st1 hi (.s q.head) (Av := []) st1.nd
      obtain ⟨A3, st3, hA3⟩ := stt_set st2 (by rw [List.length_set]; exact hj) (.s q.tail.head) (Av := []) st2.nd
      obtain ⟨A4, st4, hA4⟩ := stt_set st3 (by rw [List.length_set, List.length_set]; exact hl) (.s q.tail.tail.head) (Av := []) st3.nd
      exact ⟨v, w, u, rfl, k G1 H1 _ A4 (s1.less fun a h => hA2 a (hA3 a (hA4 a h))) st4 (((Pin.set pi).trans (Pin.set pj)).trans (Pin.set pl))⟩
theorem DS.for {wi : TI} {tg : TG} {gf : Gf} {sl : List Nat} {ml : List Ty} (hi : DI K m wi lf m1) (l1 : LeM m1 ml) (hg : DG K ml tg sl gf m2) (hb : DS K { M with b := mn, c := ml } m2 t f ml) (l2 : LeM ml mn) (hp : ∀ j ∈ M.po, j ∉ sl) :
    DS K M m (tFor wi tg t) (sFor lf gf f) mn := by
  intro G H σ e A o e' D st hf k
  obtain ⟨⟨ds, e1⟩, hf1, hf⟩ := Option.bind_eq_some_iff.mp hf
  refine hi st hf1 fun G1 H1 A1 J s1 st1 wk hz => ?_
  obtain ⟨G2, A2, s2, st2⟩ := stt_le l1 st1
  let T := fun (i : Nat) (σc : St) (Hc : Hp) => ∃ Gc ec A', Step A G H A' Gc Hc ∧ Same G1 Gc ∧ Stt K ml Gc Hc σc ec A' ∧ Pin M.po σ σc ∧ forL gf f (ds.drop i) ec = some (o, e')
  refine ⟨fun i mm σc Hc => mm = ds.length - i ∧ i ≤ ds.length ∧ T i σc Hc, ⟨ds.length, by omega, Nat.zero_le _, G2, e1, A2, s1.seq0 s2, s2.sg, st2, Pin.refl, hf⟩, ?_⟩
  rintro i mm σc Hc ⟨rfl, hle, Gc, ec, A', sc, sg, stc, pc, hl⟩
  have sub1 : Same G1 Hc := sg.trans stc.sub
  by_cases hi : i < ds.length
  · refine .inr ⟨wk.goes i Hc hi sub1, fun σn Hn => i < ds.length ∧ T (i + 1) σn Hn, fun σn Hn hn => ⟨ds.length - (i + 1), by omega, rfl, by omega, hn.2⟩, fun x Hy hy => ?_⟩
    obtain ⟨Gy, sy, sty, sgy, qy⟩ := wk.yields hi sg stc hy
    have hd : ds.drop i = ds[i] :: ds.drop (i + 1) := List.drop_eq_getElem_cons hi
    rw [hd] at hl
    unfold forL at hl
    obtain ⟨e2, hl1, hl⟩ := Option.bind_eq_some_iff.mp hl
    obtain ⟨⟨o3, e3⟩, hl2, hl⟩ := Option.bind_eq_some_iff.mp hl
    refine hg sty (qy _ (List.getElem?_eq_getElem hi)) hl1 fun G3 H3 σ3 A3 s3 st3 k3 l3 => ?_
    have p3 : Pin M.po σ σ3 := pc.trans fun j hj => k3 j (hp j hj)
    have s03 := (sc.seq0 sy).seq0 s3
    refine hb st3 hl2 ?_
    cases o3 with
    | nx => exact fun G4 H4 σ4 A4 s4 st4 p4 => ⟨hi, G4, e3, A4, s03.seq0 s4, ((sg.trans sgy).trans s3.sg).trans s4.sg, st4, p3.trans p4, hl⟩
    | ct => exact fun G4 H4 σ4 A4 s4 st4 p4 => ⟨hi, G4, e3, A4, s03.seq0 s4, ((sg.trans sgy).trans s3.sg).trans s4.sg, st4, p3.trans p4, hl⟩
    | bk => cases hl; exact fun G4 H4 σ4 A4 s4 st4 p4 => k G4 H4 σ4 A4 (s03.seq0 s4) st4 (p3.trans p4)
    | rt r => cases hl; exact fun G4 H4 σ4 v Av A4 s4 st4 o4 nd4 p4 => k G4 H4 σ4 v Av A4 (s03.seq0 s4) st4 o4 nd4 (p3.trans p4)
  · have hie : i = ds.length := by omega
    subst hie
    rw [List.drop_length] at hl
    cases hl
    obtain ⟨G4, A4, s4, st4⟩ := stt_le l2 stc
    exact .inl ⟨wk.stops Hc sub1, k G4 Hc σc A4 (sc.seq0 s4) st4 pc⟩
theorem DS.wh {tc : TT} {ml : List Ty} {fuel : Nat} (l0 : LeM m ml) (hc : DT K ml tc bf m1) (hb : DS K { M with b := mn, c := ml } m1 t f ml) (l2 : LeM m1 mn) : DS K M m (tWhile tc t) (sWh fuel bf f) mn := by
  intro G H σ e A o e' D st hf k
  obtain ⟨G2, A2, s2, st2⟩ := stt_le l0 st
  refine ⟨fun i σc Hc => ∃ Gc ec A', Step A G H A' Gc Hc ∧ Stt K ml Gc Hc σc ec A' ∧ Pin M.po σ σc ∧ whL bf f i ec = some (o, e'), ⟨fuel, G2, e, A2, s2, st2, Pin.refl, hf⟩, ?_⟩
  rintro i σc Hc ⟨Gc, ec, A', sc, stc, pc, hl⟩
  cases i with
  | zero => cases hl
  | succ i =>
    unfold whL at hl
    obtain ⟨⟨b, e2⟩, hl1, hl⟩ := Option.bind_eq_some_iff.mp hl
    refine hc stc hl1 fun G3 H3 A3 s3 st3 => ?_
    cases b with
    | true =>
      rw [if_pos rfl] at hl ⊢
      obtain ⟨⟨o3, e3⟩, hl2, hl⟩ := Option.bind_eq_some_iff.mp hl
      refine ⟨fun σn Hn => ∃ Gc ec A', Step A G H A' Gc Hn ∧ Stt K ml Gc Hn σn ec A' ∧ Pin M.po σ σn ∧ whL bf f i ec = some (o, e'), fun σn Hn hn => ⟨i, Nat.lt_succ_self i, hn⟩, hb st3 hl2 ?_⟩
      have s03 := sc.seq0 s3
      cases o3 with
      | nx => exact fun G4 H4 σ4 A4 s4 st4 p4 => ⟨G4, e3, A4, s03.seq0 s4, st4, pc.trans p4, hl⟩
      | ct => exact fun G4 H4 σ4 A4 s4 st4 p4 => ⟨G4, e3, A4, s03.seq0 s4, st4, pc.trans p4, hl⟩
      | bk => cases hl; exact fun G4 H4 σ4 A4 s4 st4 p4 => k G4 H4 σ4 A4 (s03.seq0 s4) st4 (pc.trans p4)
      | rt r => cases hl; exact fun G4 H4 σ4 v Av A4 s4 st4 o4 nd4 p4 => k G4 H4 σ4 v Av A4 (s03.seq0 s4) st4 o4 nd4 (pc.trans p4)
    | false =>
      rw [if_neg (by simp)] at hl ⊢
      cases hl
      obtain ⟨G4, A4, s4, st4⟩ := stt_le l2 st3
      exact k G4 H3 σc A4 ((sc.seq0 s3).seq0 s4) st4 pc
end

section
variable {ι : Type} {Xf : ι → Cx} {P : Program} {w : World} {K : PySem.W.Frag} {mg : Str → Option Value} {base : Heap} {n : Nat} [F : Fam Xf P w K mg base n]
variable {M : Mk} {m m1 m2 mn ml : List Ty} {pos p p2 spos : Pos} {a b c v tg iter : Expr} {st : Stmt} {rest body orelse : List Stmt} {f g : Sf} {ef : Ef} {bf : Bf} {lf : Lf} {gf : Gf} {sl : List Nat} {ty : Ty}
theorem ss_nil : PSsd Xf K M m [] sNil m := ⟨_, fun i => pss_nil, DS.nil⟩
theorem ss_cons (h1 : PSd Xf K M m st f m1) (h2 : PSsd Xf K M m1 rest g mn) : PSsd Xf K M m (st :: rest) (sSeq f g) mn := by
  obtain ⟨t, p, d⟩ := h1.ex
  obtain ⟨u, q, d2⟩ := h2.ex
  exact ⟨_, fun i => pss_cons (p i) (q i), DS.seq d d2⟩
theorem ss_one (h1 : PSd Xf K M m st f m1) : PSsd Xf K M m [st] f m1 := by
  obtain ⟨t, p, d⟩ := h1.ex
  exact ⟨_, fun i => pss_one (p i), d⟩
theorem ss_le (h : PSsd Xf K M m rest f m1) (l : LeM m1 mn) : PSsd Xf K M m rest f mn := by
  obtain ⟨t, p, d⟩ := h.ex
  exact ⟨_, p, d.le l⟩
theorem ds_pass : PSd Xf K M m (.Pass pos) sNil m := ⟨_, fun i => ps_pass, DS.nil⟩
theorem ds_doc {x j pos pos'} : PSd Xf K M m (.Expr (.Constant (.str x) j pos) pos') sNil m := ⟨_, fun i => ps_doc, DS.nil⟩
theorem ds_brk (l : LeM m M.b) : PSd Xf K M m (.Break pos) sBrk mn := ⟨_, fun i => ps_break, DS.brk l⟩
theorem ds_cnt (l : LeM m M.c) : PSd Xf K M m (.Continue pos) sCnt mn := ⟨_, fun i => ps_continue, DS.cnt l⟩
theorem ds_ret (he : PD Xf K m v M.ty ef m1) (l : LeM m1 M.r) : PSd Xf K M m (.Return (some v) pos) (sRet ef) mn := by
  obtain ⟨t, p, d⟩ := he.ex
  exact ⟨_, fun i => ps_ret (p i), DS.ret d l⟩
theorem ds_retN (ht : M.ty = .s) (l : LeM m M.r) : PSd Xf K M m (.Return none pos) sRetN mn := ⟨_, fun i => ps_retN, DS.retN ht l⟩
theorem ds_if (hc : PB Xf K m c bf m1) (ha : PSsd Xf K M m1 body f mn) (hb : PSsd Xf K M m1 orelse g mn) : PSd Xf K M m (.If c body orelse pos) (sIf bf f g) mn := by
  obtain ⟨t, p, d⟩ := hc.ex
  obtain ⟨t1, p1, d1⟩ := ha.ex
  obtain ⟨t2, p2, d2⟩ := hb.ex
  exact ⟨_, fun i => ps_if (p i) (p1 i) (p2 i), DS.ite d d1 d2⟩
theorem ds_drop (he : PD Xf K m v ty ef m1) (hs : ∀ i, swapsWith v none pos.line (Xf i).env = pure false := by intro _; rfl) : PSd Xf K M m (.Expr v pos) (sDrop ef) m1 := by
  obtain ⟨t, p, d⟩ := he.ex
  exact ⟨_, fun i => ps_expr (p i) (hs i), DS.drop d⟩
include F in
theorem ds_asg (j : Nat) {x : Str} {pos' : Pos} (he : PD Xf K m v ty ef m1) (hj : j < m1.length := by decide) (hp : j ∉ M.po := by decide) (hi : ∀ i, (Xf i).N[j]? = some x := by intro _; rfl) (hx : ∀ i, Loc (Xf i).env.scope x := by first | (intro _; exact Or.inl rfl) | (intro _; exact Or.inr rfl))
    (hs : ∀ i, swapsWith v (some (.Name x pos')) pos.line (Xf i).env = pure false := by intro _; rfl) (hf : ∀ i, (Xf i).fn x = true ∨ (Xf i).env.scope.names.lookup x = some .local := by first | (intro _; exact Or.inl rfl) | (intro _; exact Or.inr rfl)) :
    PSd Xf K M m (.Assign [.Name x pos'] v pos) (sAsg j ef) (m1.set j ty) := by
  obtain ⟨t, p, d⟩ := he.ex
  exact ⟨_, fun i => ps_set (F.nd i) (hi i) (hx i) (p i) (hs i) (hf i), DS.asg d hj hp⟩
theorem ds_tg (he : PD Xf K m v .s ef m1) (hg : PGD Xf K m1 tg sl gf m2) (hp : ∀ j ∈ M.po, j ∉ sl := by decide) (hs : ∀ i, swapsWithSole [tg] v pos.line (Xf i).env = pure false := by intro _; rfl) (hw : ∀ i, swappedStores [tg] v (Xf i).env = pure none := by intro _; rfl)
    (h1 : ∀ i, (assignEach [tg] (Xf i).env).map (·.2) = [assign tg (Xf i).env] := by intro _; rfl) : PSd Xf K M m (.Assign [tg] v pos) (sTg ef gf) m2 := by
  obtain ⟨t, p, d⟩ := he.ex
  obtain ⟨t2, p2, d2⟩ := hg.ex
  exact ⟨_, fun i => ps_asg (p i) (p2 i) (hs i) (hw i) (h1 i), DS.tg d d2 hp⟩
include F in
theorem ds_par (i j : Nat) {L : List (Option Nat)} {x y : Str} {px py pt pt2 : Pos} {kt k2} (ha : PAL Xf K m [a, b] [.s, .s] L lf m1) (hi : i < m1.length := by decide) (hj : j < m1.length := by decide) (pi : i ∉ M.po := by decide) (pj : j ∉ M.po := by decide) (hij : i ≠ j := by decide)
    (ni : ∀ z, (Xf z).N[i]? = some x := by intro _; rfl) (nj : ∀ z, (Xf z).N[j]? = some y := by intro _; rfl) (hx : ∀ z, (Xf z).env.scope.names.lookup x = some .local := by intro _; rfl) (hy : ∀ z, (Xf z).env.scope.names.lookup y = some .local := by intro _; rfl)
    (hw : ∀ z, swappedStores [.Tuple [.Name x px, .Name y py] kt pt] (.Tuple [a, b] k2 pt2) (Xf z).env = pure (some [x, y]) := by intro _; rfl) (hs : ∀ z, swapsWithSole [.Tuple [.Name x px, .Name y py] kt pt] (.Tuple [a, b] k2 pt2) pos.line (Xf z).env = pure false := by intro _; rfl) :
    PSd Xf K M m (.Assign [.Tuple [.Name x px, .Name y py] kt pt] (.Tuple [a, b] k2 pt2) pos) (sPar i j lf) ((m1.set i .s).set j .s) := by
  obtain ⟨t, p, d⟩ := ha.ex
  exact ⟨_, fun z => ps_par (F.calm z) (F.nd z) (ni z) (nj z) hij (hx z) (hy z) (p z) (hw z) (hs z), DS.par (fun st hf k => d st hf fun G' H' vs Av A' s st' o nd _ => k G' H' vs Av A' s st' o nd) hi hj pi pj⟩
include F in
theorem ds_par3 (i j l : Nat) {L : List (Option Nat)} {x y z : Str} {px py pz pt pt2 : Pos} {kt k2} (ha : PAL Xf K m [a, b, c] [.s, .s, .s] L lf m1) (hi : i < m1.length := by decide) (hj : j < m1.length := by decide) (hl : l < m1.length := by decide) (pi : i ∉ M.po := by decide) (pj : j ∉ M.po := by decide) (pl : l ∉ M.po := by decide) (hij : i ≠ j := by decide) (hil : i ≠ l := by decide) (hjl : j ≠ l := by decide)
    (ni : ∀ q, (Xf q).N[i]? = some x := by intro _; rfl) (nj : ∀ q, (Xf q).N[j]? = some y := by intro _; rfl) (nl : ∀ q, (Xf q).N[l]? = some z := by intro _; rfl) (hx : ∀ q, (Xf q).env.scope.names.lookup x = some .local := by intro _; rfl) (hy : ∀ q, (Xf q).env.scope.names.lookup y = some .local := by intro _; rfl) (hz : ∀ q, (Xf q).env.scope.names.lookup z = some .local := by intro _; rfl)
    (hw : ∀ q, swappedStores [.Tuple [.Name x px, .Name y py, .Name z pz] kt pt] (.Tuple [a, b, c] k2 pt2) (Xf q).env = pure (some [x, y, z]) := by intro _; rfl) (hs : ∀ q, swapsWithSole [.Tuple [.Name x px, .Name y py, .Name z pz] kt pt] (.Tuple [a, b, c] k2 pt2) pos.line (Xf q).env = pure false := by intro _; rfl) :
    PSd Xf K M m (.Assign [.Tuple [.Name x px, .Name y py, .Name z pz] kt pt] (.Tuple [a, b, c] k2 pt2) pos) (sPar3 i j l lf) (((m1.set i .s).set j .s).set l .s) := by
  obtain ⟨t, p, d⟩ := ha.ex
  exact ⟨_, fun q => ps_par3 (F.calm q) (F.nd q) (ni q) (nj q) (nl q) hij hil hjl (hx q) (hy q) (hz q) (p q) (hw q) (hs q), DS.par3 (fun st hf k => d st hf fun G' H' vs Av A' s st' o nd _ => k G' H' vs Av A' s st' o nd) hi hj hl pi pj pl⟩
include F in
theorem ds_for [FN : FamN Xf] (ml : List Ty) (hi : PIt Xf K m tg iter lf m1) (l1 : LeM m1 ml) (hg : PGD Xf K ml tg sl gf m2) (hb : PSsd Xf K { M with b := mn, c := ml } m2 body f ml) (l2 : LeM ml mn) (hp : ∀ j ∈ M.po, j ∉ sl := by decide)
    (hs : ∀ i x, foldedSetIterable iter (Xf i).env x = pure x := by intro _ _; rfl) : PSd Xf K M m (.For tg iter body [] pos) (sFor lf gf f) mn := by
  obtain ⟨wi, pi, di⟩ := hi.ex
  obtain ⟨g, pg, dg⟩ := hg.ex
  obtain ⟨t, p, d⟩ := hb.ex
  exact ⟨_, fun i => ps_for (FN.ps i) (F.calm i) (pi i) (pg i) (p i) (hs i), DS.for di l1 dg d l2 hp⟩
theorem ds_wh [FN : FamN Xf] (fuel : Nat) (ml : List Ty) (l0 : LeM m ml) (hc : PB Xf K ml c bf m1) (hb : PSsd Xf K { M with b := mn, c := ml } m1 body f ml) (l2 : LeM m1 mn) : PSd Xf K M m (.While c body [] pos) (sWh fuel bf f) mn := by
  obtain ⟨t, p, d⟩ := hc.ex
  obtain ⟨t2, p2, d2⟩ := hb.ex
  exact ⟨_, fun i => ps_while (FN.ps i) (p i) (p2 i), DS.wh l0 d d2 l2⟩
include F in
/-- name = [.. for ..] on one line -/
theorem ds_setLc (j : Nat) {x : Str} {py : Pos} {elt : Expr} {ifs : List Expr} {scope : Scope} {tf : Bf} (own : List (Str × Nat)) (hi : PIt Xf K m tg iter lf m1) (hg : PGD (blkF Xf scope) K (hideM m1 (own.map (·.2))) tg sl gf m2) (ht : PTsD (blkF Xf scope) K m2 ifs tf) (he : PD (blkF Xf scope) K m2 elt ty ef m2)
    (ok : ∀ i, BlkOk (Xf i).N (Xf i).env.scope scope own := by intro _; exact blkOk_by (by rfl)) (us : usB m1 (own.map (·.2)) = true := by rfl) (hs : ∀ j ∈ sl, j ∈ own.map (·.2) := by decide) (le : LeM m2 (hideM m1 (own.map (·.2))) := by repeat (first | exact .nil | refine .cons (by first | exact .rfl _ | exact .u _) ?_))
    (hj : j < m1.length := by decide) (hp : j ∉ M.po := by decide) (hN : ∀ i, (Xf i).N[j]? = some x := by intro _; rfl) (hyl : ∀ i, (Xf i).env.scope.names.lookup x = some .local := by intro _; rfl)
    (hsw : ∀ i, swapsWith (.ListComp elt [⟨tg, iter, ifs, 0⟩] scope pos) (some (.Name x py)) spos.line (Xf i).env = pure true := by intro _; exact sw_true rfl rfl (by rfl) (by rfl))
    (hf : ∀ i x, foldedSetIterable iter (Xf i).env x = pure x := by intro _ _; rfl) : PSd Xf K M m (.Assign [.Name x py] (.ListComp elt [⟨tg, iter, ifs, 0⟩] scope pos) spos) (sAsg j (eLc lf (own.map (·.2)) gf tf ef)) (m1.set j (.l ty)) := by
  obtain ⟨wi, pi, di⟩ := hi.ex
  obtain ⟨g, pg, dg⟩ := hg.ex
  obtain ⟨tt, pt, dt⟩ := ht.ex
  obtain ⟨te, pe, de⟩ := he.ex
  exact ⟨_, fun i => ps_setLc (F.calm i) (F.nd i) (hN i) (hyl i) (hsw i) (pi i) (ok i) (fun s H C cl fp => pg ⟨i, s, H, C, cl, fp⟩) (fun s H C cl fp => pt ⟨i, s, H, C, cl, fp⟩) (fun s H C cl fp => pe ⟨i, s, H, C, cl, fp⟩) (hf i), DS.asg (DE.lc di dg dt de us hs le) hj hp⟩
end
end DL

namespace DL
open PySem L2 PySem.Spec

/-! ### owned lists written -/
def eApp (j : Nat) (f : Ef) : Ef := fun e => (f e).bind fun p => match e.getD j .none with
  | .list ds => if ds.length < sizeLine then some (.none, p.2.set j (.list (ds ++ [p.1]))) else none
  | _ => none
def eAppV (g : Gq) (pt : Pf) (gv : Gq) : Ef := fun e => (g e).bind fun d => (gv e).bind fun x => match d with
  | .list ds => if ds.length < sizeLine then some (.none, pt e (.list (ds ++ [x]))) else none
  | _ => none
def ePop (g : Gq) (pt : Pf) : Ef := fun e => (g e).bind fun d => match d with
  | .list ds => (ds[ds.length - 1]?).map fun x => (x, pt e (.list ds.dropLast))
  | _ => none
def ePopAt (g : Gq) (pt : Pf) (gi : Gq) : Ef := fun e => (g e).bind fun d => (gi e).bind fun i => match d, i with
  | .list ds, .int k => if -(2 ^ 63) ≤ k ∧ k < 2 ^ 63 then (ixN ds.length k).bind fun j => (ds[j]?).map fun x => (x, pt e (.list (ds.eraseIdx j))) else none
  | _, _ => none
def sSet (g : Gq) (pt : Pf) (gi : Gq) (f : Ef) : Sf := fun e => (f e).bind fun p => (g p.2).bind fun d => (gi p.2).bind fun i => match d, i with
  | .list ds, .int k => (ixN ds.length k).map fun j => (.nx, pt p.2 (.list (ds.set j p.1)))
  | _, _ => none
def eItm (g gi : Gq) : Ef := fun e => (g e).bind fun d => (gi e).bind fun i => (itemD d i).map fun x => (x, e)

theorem ite_some2 {α : Type} {c : Prop} [Decidable c] {a : Option α} {b : α} (h : (if c then a else none) = some b) : c ∧ a = some b := by
  split at h
  · rename_i hc; exact ⟨hc, h⟩
  · cases h
section
variable {K : PySem.W.Frag} {G H G1 H1 : Hp} {m m1 m2 mn : List Ty} {σ : St} {e : En} {A A1 : List Addr} {t : Ty} {ts : List Ty}
theorem ownA_erase {ds : List PyData} {vs : List (Option V)} {t : Ty} : ∀ {n : Nat} {ds : List PyData} {vs : List (Option V)} {A : List Addr} {j : Nat} {d : PyData}, OwnA K G H (List.replicate n t) ds vs A → ds[j]? = some d →
    ∃ v Aj A0, vs[j]? = some v ∧ Own K G H t d v Aj ∧ OwnA K G H (List.replicate (n - 1) t) (ds.eraseIdx j) (vs.eraseIdx j) A0 ∧ A.Perm (Aj ++ A0)
  | 0, _, _, _, j, d, h, hd => by cases h; simp at hd
  | n + 1, _, _, _, j, d, h, hd => by
    cases h with
    | @cons _ _ d0 ds v0 vs A B h1 h2 =>
      cases j with
      | zero =>
        simp at hd; subst hd
        exact ⟨v0, A, B, rfl, h1, by simpa using h2, List.Perm.refl _⟩
      | succ j =>
        have hd : ds[j]? = some d := by simpa using hd
        obtain ⟨v, Aj, A0, e1, o1, o2, p⟩ := ownA_erase (ds := ds) (vs := vs) h2 hd
        have hn : 0 < n := by
          have a := (ownA_len h2).1
          rw [List.length_replicate] at a
          have := (List.getElem?_eq_some_iff.mp hd).1
          omega
        refine ⟨v, Aj, A ++ A0, by simpa using e1, o1, ?_, ?_⟩
        · have := OwnA.cons h1 o2
          rw [← List.replicate_succ, show n - 1 + 1 = n by omega] at this
          simpa using this
        · exact (List.Perm.append_left A p).trans (by rw [← List.append_assoc, ← List.append_assoc]; exact List.Perm.append_right _ List.perm_append_comm)
theorem replicate_snoc {n : Nat} {t : Ty} : List.replicate n t ++ [t] = List.replicate (n + 1) t := by rw [List.replicate_succ']
theorem DE.app {te : TE} {f : Ef} {j : Nat} (hm : m[j]? = some (.l t)) (he : DE K (m.set j .u) te t f m1) (hm1 : m1[j]? = some .u) : DE K m (tBM K "list" rAppend (tVar j) (tCons te tNil)) .s (eApp j f) (m1.set j (.l t)) := by
  intro G H σ e A d e' Q st hf k
  obtain ⟨⟨dx, e1⟩, hf1, hf⟩ := Option.bind_eq_some_iff.mp hf
  obtain ⟨dj, vj, Aj, A0, h1, h2, h3, h4, hp⟩ := ownA_take st.own hm
  have nd := hp.nodup_iff.mp st.nd
  have st0 : Stt K (m.set j .u) G H σ e A0 := ⟨h4, (List.nodup_append.mp nd).2.1, st.sub⟩
  cases h3 with
  | @l _ a vs ds Ai ga ha hz oi =>
    have ed : e.getD j .none = .list ds := by rw [List.getD_eq_getElem?_getD, h1]; rfl
    rw [ed] at hf
    obtain ⟨hlt, hf⟩ := ite_some hf
    cases hf
    refine ⟨.ref a, h2, .inl ⟨rfl, _, .inl (.inl ha)⟩, ?_⟩
    refine he st0 hf1 fun G1 H1 x Av A1 s1 st1 ov ndv => ?_
    have s0 : Step A G H ((a :: Ai) ++ A0) G H := ⟨Same.refl G, fun _ _ h _ => h, fun b hb => .inl (hp.mem_iff.mpr hb), fun b h ⟨o, z⟩ => by rw [h] at z; cases z⟩
    have oj : Own K G H (.l t) (.list ds) (some (.ref a)) (a :: Ai) := .l ga ha hz oi
    obtain ⟨s2, nd2, hg, hh⟩ := s0.seq (own_at oj) nd s1 ndv
    have ha1 : H1 a = some (.lst vs) := by rw [hh a (List.mem_cons_self ..)]; exact ha
    have ga1 : G1 a = none := hg a (List.mem_cons_self ..)
    have oi1 := ownA_fr oi s1.sg (fun b hb => hg b (List.mem_cons_of_mem _ hb)) fun b hb => hh b (List.mem_cons_of_mem _ hb)
    have len : vs.length = ds.length := by have := (ownA_len oi).2; simpa using this
    refine ⟨a, vs, x, rfl, rfl, ha1, by omega, ?_⟩
    have nda : a ∉ Ai ++ (Av ++ A1) := by
      have := nd2
      rw [List.cons_append] at this
      exact (List.nodup_cons.mp this).1
    have fr : ∀ b, b ≠ a → upd H1 a (.lst (vs ++ [x])) b = H1 b := fun b hb => upd_ne hb
    have ne : ∀ b ∈ Ai ++ (Av ++ A1), b ≠ a := fun b hb z => nda (z ▸ hb)
    have i1 := ownA_fr (H' := upd H1 a (.lst (vs ++ [x]))) oi1 (Same.refl G1) (fun b hb => (ownA_at oi1 b hb).1) fun b hb => fr b (ne b (List.mem_append_left _ hb))
    have i2 := own_fr (H' := upd H1 a (.lst (vs ++ [x]))) ov (Same.refl G1) (fun b hb => (own_at ov b hb).1) fun b hb => fr b (ne b (List.mem_append_right _ (List.mem_append_left _ hb)))
    have i3 := ownA_snoc i1 i2
    rw [replicate_snoc] at i3
    have oN : Own K G1 (upd H1 a (.lst (vs ++ [x]))) (.l t) (.list (ds ++ [dx])) (some (.ref a)) (a :: (Ai ++ Av)) := .l ga1 upd_same (by rw [List.length_append, List.length_singleton]; omega) (by rw [List.length_append, List.length_singleton, List.map_append]; exact i3)
    have i4 := ownA_fr (H' := upd H1 a (.lst (vs ++ [x]))) st1.own (Same.refl G1) (fun b hb => (ownA_at st1.own b hb).1) fun b hb => fr b (ne b (List.mem_append_right _ (List.mem_append_right _ hb)))
    obtain ⟨A2, o2, p2⟩ := ownA_put i4 hm1 oN
    rw [set_id (l := σ) h2] at o2
    have pA : A2.Perm ((a :: Ai) ++ (Av ++ A1)) := p2.trans (List.perm_iff_count.mpr fun z => by simp only [List.count_append, List.count_cons, List.cons_append]; omega)
    refine k G1 _ .non [] A2 ⟨s2.sg, fun b o hb hbA => ?_, fun b hb => s2.own b (pA.mem_iff.mp hb), s2.gnew⟩ ⟨o2, pA.nodup_iff.mpr nd2, fun b o hb => ?_⟩ (.s .non) (pA.nodup_iff.mpr nd2)
    · rw [fr b (fun z => hbA (z ▸ hp.mem_iff.mpr (List.mem_append_left _ (List.mem_cons_self ..))))]
      exact s2.fr b o hb hbA
    · rw [fr b (ne_of_none hb ga1)]; exact st1.sub b o hb

/-- a list at a place is rewritten at a -/
theorem pl_wrote {a : Addr} {Ad Ar Ad' : List Addr} {pt : Pf} {ty : Ty} {d d' : PyData} {H2 : Hp} {u : HO} (st : Stt K m G H σ e A) (hp : A.Perm (Ad ++ Ar)) (o1 : Own K G H ty d (some (.ref a)) Ad)
    (back : ∀ {G' H' : Hp} {d' : PyData} {Ad' : List Addr}, Same G G' → Own K G' H' ty d' (some (.ref a)) Ad' → (∀ b ∈ Ar, H' b = H b ∧ G' b = none) → ∃ A', OwnA K G' H' m (pt e d') σ A' ∧ A'.Perm (Ad' ++ Ar))
    (s : Same H H2) (hin : a ∈ Ad) (o2 : Own K G (upd H2 a u) ty d' (some (.ref a)) Ad') (sub : ∀ b ∈ Ad', b ∈ Ad) (nd' : Ad'.Nodup) :
    ∃ A', Step A G H A' G (upd H2 a u) ∧ Stt K m G (upd H2 a u) σ (pt e d') A' ∧ ∀ b ∈ A', b ∈ Ad' ++ Ar := by
  have nd := hp.nodup_iff.mp st.nd
  have n := List.nodup_append.mp nd
  have ga : G a = none := (own_at o1 a hin).1
  have atA : ∀ b ∈ A, G b = none ∧ ∃ o, H b = some o := ownA_at st.own
  obtain ⟨A', oA, pA⟩ := back (Same.refl G) o2 fun b hb => by
    have hbA := hp.mem_iff.mpr (List.mem_append_right Ad hb)
    obtain ⟨gb, o, ho⟩ := atA b hbA
    refine ⟨?_, gb⟩
    rw [upd_ne (fun z => n.2.2 a hin b hb z.symm), s b o ho, ho]
  have ndA : A'.Nodup := pA.nodup_iff.mpr (List.nodup_append.mpr ⟨nd', n.2.1, fun x hx y hy z => n.2.2 x (sub x hx) y hy z⟩)
  have inA : ∀ b ∈ A', b ∈ A := fun b hb => hp.mem_iff.mpr ((List.mem_append.mp (pA.mem_iff.mp hb)).elim (fun z => List.mem_append_left _ (sub b z)) fun z => List.mem_append_right _ z)
  refine ⟨A', ⟨Same.refl G, fun b o hb hbA => ?_, fun b hb => .inl (inA b hb), fun b h1 ⟨o, h2⟩ => by rw [h1] at h2; cases h2⟩, ⟨oA, ndA, fun b o hb => ?_⟩, fun b hb => pA.mem_iff.mp hb⟩
  · have hne : b ≠ a := fun z => hbA (by rw [z]; exact hp.mem_iff.mpr (List.mem_append_left _ hin))
    rw [upd_ne hne]; exact s b o hb
  · rw [upd_ne (ne_of_none hb ga)]; exact s b o (st.sub b o hb)
theorem DE.appV {te tv : TE} {g gv : Gq} {pt : Pf} (hp : DPl K m te (.l .s) g pt) (hv : DPv K m tv gv) : DE K m (tBM K "list" rAppend te (tCons tv tNil)) .s (eAppV g pt gv) m := by
  intro G H σ e A d e' Q st hf k
  obtain ⟨dl, h1, hf⟩ := Option.bind_eq_some_iff.mp hf
  obtain ⟨dx, h2, hf⟩ := Option.bind_eq_some_iff.mp hf
  obtain ⟨a, Ad, Ar, hp1, o1, ev, back⟩ := hp st h1
  have o1' := o1
  cases o1 with
  | @l _ _ vs ds Ai ga ha hz oi =>
    obtain ⟨hlt, hf⟩ := ite_some hf
    cases hf
    obtain ⟨rfl, qi⟩ := of_ownA oi
    refine ev fun H1 s1 => ⟨.inl ⟨rfl, _, .inl (.inl (s1 _ _ ha))⟩, hv (stt_grow st s1).2 h2 fun H2 x s2 q => ?_⟩
    have s12 := s1.trans s2
    refine ⟨a, vs, x, rfl, rfl, s12 _ _ ha, by rw [qi.1]; exact hlt, ?_⟩
    have q' : DqA K G (vs ++ [x]) (ds ++ [dx]) := qi.append (DqA.cons q DqA.nil)
    obtain ⟨A2, s3, st3, inA⟩ := pl_wrote (u := .lst (vs ++ [x])) (Ad' := [a]) st hp1 o1' back s12 (List.mem_cons_self ..) (.l ga upd_same (by rw [List.length_append, List.length_singleton, qi.1]; omega) (ownA_of q')) (fun b hb => hb) (by simp)
    exact k G _ .non [] A2 s3 st3 (.s .non) st3.nd
theorem DE.pop {te : TE} {g : Gq} {pt : Pf} (hp : DPl K m te (.l t) g pt) : DE K m (tBM0 K "list" rPop te) t (ePop g pt) m := by
  intro G H σ e A d e' Q st hf k
  obtain ⟨dl, h1, hf⟩ := Option.bind_eq_some_iff.mp hf
  obtain ⟨a, Ad, Ar, hp1, o1, ev, back⟩ := hp st h1
  have o1' := o1
  cases o1 with
  | @l _ _ vs ds Ai ga ha hz oi =>
    obtain ⟨x, hx, hf⟩ := Option.map_eq_some_iff.mp hf
    cases hf
    have len : vs.length = ds.length := by have := (ownA_len oi).2; simpa using this
    obtain ⟨v, Aj, A0, e1, oj, o0, pj⟩ := ownA_erase (ds := ds) (vs := vs.map some) oi hx
    rw [List.getElem?_map] at e1
    obtain ⟨w, hw, e2⟩ := Option.map_eq_some_iff.mp e1
    subst e2
    refine ev fun H1 s1 => ⟨.inl ⟨rfl, _, .inl (.inl (s1 _ _ ha))⟩, a, vs, w, rfl, rfl, s1 _ _ ha, by rw [len]; exact hw, ?_⟩
    have nd := hp1.nodup_iff.mp st.nd
    have n := List.nodup_append.mp nd
    have n1 := List.nodup_cons.mp n.1
    have n2 := List.nodup_append.mp (pj.nodup_iff.mp n1.2)
    have inI : ∀ b, b ∈ Aj ++ A0 → b ∈ Ai := fun b hb => pj.mem_iff.mpr hb
    have hfr : ∀ b ∈ Ai, upd H1 a (.lst vs.dropLast) b = H b := fun b hb => by
      obtain ⟨_, o, ho⟩ := ownA_at oi b hb
      have hne : b ≠ a := fun z => n1.1 (by rw [← z]; exact hb)
      rw [upd_ne hne, s1 b o ho, ho]
    have gfr : ∀ b ∈ Ai, G b = none := fun b hb => (ownA_at oi b hb).1
    have hne : ds ≠ [] := fun z => by rw [z] at hx; simp at hx
    have edr : ds.eraseIdx (ds.length - 1) = ds.dropLast := by rw [List.eraseIdx_eq_take_drop_succ, show ds.length - 1 + 1 = ds.length by have := List.length_pos_iff.mpr hne; omega, List.drop_length, List.append_nil, ← List.dropLast_eq_take]
    have evr : (vs.map some).eraseIdx (ds.length - 1) = vs.dropLast.map some := by
      rw [← len, List.eraseIdx_eq_take_drop_succ]
      have : vs.length - 1 + 1 = vs.length := by have := List.length_pos_iff.mpr hne; omega
      rw [this, List.drop_eq_nil_of_le (by simp), List.append_nil, List.dropLast_eq_take, List.map_take]
    rw [edr, evr] at o0
    have oN : Own K G (upd H1 a (.lst vs.dropLast)) (.l t) (.list ds.dropLast) (some (.ref a)) (a :: A0) := .l ga upd_same (by rw [List.length_dropLast]; omega) (by
      rw [List.length_dropLast]
      exact ownA_fr o0 (Same.refl G) (fun b hb => gfr b (inI b (List.mem_append_right _ hb))) fun b hb => hfr b (inI b (List.mem_append_right _ hb)))
    obtain ⟨A2, s3, st3, inA⟩ := pl_wrote (u := .lst vs.dropLast) (Ad' := a :: A0) st hp1 o1' back s1 (List.mem_cons_self ..) oN (fun b hb => by
      rcases List.mem_cons.mp hb with z | z
      · rw [z]; exact List.mem_cons_self ..
      · exact List.mem_cons_of_mem _ (inI b (List.mem_append_right _ z))) (List.nodup_cons.mpr ⟨fun z => n1.1 (inI _ (List.mem_append_right _ z)), n2.2.1⟩)
    have oj2 := own_fr (H' := upd H1 a (.lst vs.dropLast)) oj (Same.refl G) (fun b hb => gfr b (inI b (List.mem_append_left _ hb))) fun b hb => hfr b (inI b (List.mem_append_left _ hb))
    refine k G _ w Aj A2 ⟨s3.sg, s3.fr, fun b hb => ?_, s3.gnew⟩ st3 oj2 ?_
    · rcases List.mem_append.mp hb with z | z
      · exact .inl (hp1.mem_iff.mpr (List.mem_append_left _ (List.mem_cons_of_mem _ (inI b (List.mem_append_left _ z)))))
      · exact s3.own b z
    · refine List.nodup_append.mpr ⟨n2.1, st3.nd, fun x hx y hy z => ?_⟩
      subst z
      rcases List.mem_append.mp (inA x hy) with q | q
      · rcases List.mem_cons.mp q with q | q
        · exact n1.1 (q ▸ inI x (List.mem_append_left _ hx))
        · exact n2.2.2 x hx x q rfl
      · exact n.2.2 x (List.mem_cons_of_mem _ (inI x (List.mem_append_left _ hx))) x q rfl
theorem DE.popAt {te ti : TE} {g gi : Gq} {pt : Pf} (hp : DPl K m te (.l t) g pt) (hi : DQv K m ti gi) : DE K m (tBM K "list" rPopAt te (tCons ti tNil)) t (ePopAt g pt gi) m := by
  intro G H σ e A d e' Q st hf k
  obtain ⟨dl, h1, hf⟩ := Option.bind_eq_some_iff.mp hf
  obtain ⟨di, h2, hf⟩ := Option.bind_eq_some_iff.mp hf
  obtain ⟨a, Ad, Ar, hp1, o1, ev, back⟩ := hp st h1
  have o1' := o1
  cases o1 with
  | @l _ _ vs ds Ai ga ha hz oi =>
    cases di with
    | int i =>
      obtain ⟨hr, hf⟩ := ite_some2 hf
      obtain ⟨j, hj, hf⟩ := Option.bind_eq_some_iff.mp hf
      obtain ⟨x, hx, hf⟩ := Option.map_eq_some_iff.mp hf
      cases hf
      have len : vs.length = ds.length := by have := (ownA_len oi).2; simpa using this
      obtain ⟨v, Aj, A0, e1, oj, o0, pj⟩ := ownA_erase (ds := ds) (vs := vs.map some) oi hx
      rw [List.getElem?_map] at e1
      obtain ⟨w, hw, e2⟩ := Option.map_eq_some_iff.mp e1
      subst e2
      refine ev fun H1 s1 => ⟨.inl ⟨rfl, _, .inl (.inl (s1 _ _ ha))⟩, hi (stt_grow st s1).2 h2 fun H2 y s2 qy => ?_⟩
      cases qy
      have s12 := s1.trans s2
      refine ⟨a, vs, i, j, w, rfl, rfl, s12 _ _ ha, hr.1, hr.2, by rw [len]; exact (ixN_seq hj).1, hw, ?_⟩
      have nd := hp1.nodup_iff.mp st.nd
      have n := List.nodup_append.mp nd
      have n1 := List.nodup_cons.mp n.1
      have n2 := List.nodup_append.mp (pj.nodup_iff.mp n1.2)
      have inI : ∀ b, b ∈ Aj ++ A0 → b ∈ Ai := fun b hb => pj.mem_iff.mpr hb
      have hfr : ∀ b ∈ Ai, upd H2 a (.lst (vs.eraseIdx j)) b = H b := fun b hb => by
        obtain ⟨_, o, ho⟩ := ownA_at oi b hb
        have hne : b ≠ a := fun z => n1.1 (by rw [← z]; exact hb)
        rw [upd_ne hne, s12 b o ho, ho]
      have gfr : ∀ b ∈ Ai, G b = none := fun b hb => (ownA_at oi b hb).1
      have hjl : j < ds.length := (List.getElem?_eq_some_iff.mp hx).1
      have evr : (vs.map some).eraseIdx j = (vs.eraseIdx j).map some := by
        rw [List.eraseIdx_eq_take_drop_succ, List.eraseIdx_eq_take_drop_succ, List.map_append, List.map_take, List.map_drop]
      rw [evr] at o0
      have oN : Own K G (upd H2 a (.lst (vs.eraseIdx j))) (.l t) (.list (ds.eraseIdx j)) (some (.ref a)) (a :: A0) := .l ga upd_same (by have := len_erase vs j; omega) (by
        rw [List.length_eraseIdx, if_pos hjl]
        exact ownA_fr o0 (Same.refl G) (fun b hb => gfr b (inI b (List.mem_append_right _ hb))) fun b hb => hfr b (inI b (List.mem_append_right _ hb)))
      obtain ⟨A2, s3, st3, inA⟩ := pl_wrote (u := .lst (vs.eraseIdx j)) (Ad' := a :: A0) st hp1 o1' back s12 (List.mem_cons_self ..) oN (fun b hb => by
        rcases List.mem_cons.mp hb with z | z
        · rw [z]; exact List.mem_cons_self ..
        · exact List.mem_cons_of_mem _ (inI b (List.mem_append_right _ z))) (List.nodup_cons.mpr ⟨fun z => n1.1 (inI _ (List.mem_append_right _ z)), n2.2.1⟩)
      have oj2 := own_fr (H' := upd H2 a (.lst (vs.eraseIdx j))) oj (Same.refl G) (fun b hb => gfr b (inI b (List.mem_append_left _ hb))) fun b hb => hfr b (inI b (List.mem_append_left _ hb))
      refine k G _ w Aj A2 ⟨s3.sg, s3.fr, fun b hb => ?_, s3.gnew⟩ st3 oj2 ?_
      · rcases List.mem_append.mp hb with z | z
        · exact .inl (hp1.mem_iff.mpr (List.mem_append_left _ (List.mem_cons_of_mem _ (inI b (List.mem_append_left _ z)))))
        · exact s3.own b z
      · refine List.nodup_append.mpr ⟨n2.1, st3.nd, fun x hx y hy z => ?_⟩
        subst z
        rcases List.mem_append.mp (inA x hy) with q | q
        · rcases List.mem_cons.mp q with q | q
          · exact n1.1 (q ▸ inI x (List.mem_append_left _ hx))
          · exact n2.2.2 x hx x q rfl
        · exact n.2.2 x (List.mem_cons_of_mem _ (inI x (List.mem_append_left _ hx))) x q rfl
    | _ => cases hf
end
end DL

namespace DL
open PySem L2 PySem.Spec

section
variable {K : PySem.W.Frag} {G H G1 H1 : Hp} {m m1 m2 mn : List Ty} {σ : St} {e : En} {A A1 : List Addr} {t : Ty} {ts : List Ty} {M : Mk}
/-- a list at a place is rewritten, a new value moved in -/
theorem pl_wrote2 {a : Addr} {Av Ad Ar Ad' : List Addr} {pt : Pf} {ty tv : Ty} {d d' dv : PyData} {v : Option V} {H2 : Hp} {u : HO} (s1 : Step A G H (Av ++ A1) G1 H1) (st : Stt K m G1 H1 σ e A1) (ov : Own K G1 H1 tv dv v Av) (ndv : (Av ++ A1).Nodup) (hp : A1.Perm (Ad ++ Ar)) (o1 : Own K G1 H1 ty d (some (.ref a)) Ad)
    (back : ∀ {G' H' : Hp} {d' : PyData} {Ad' : List Addr}, Same G1 G' → Own K G' H' ty d' (some (.ref a)) Ad' → (∀ b ∈ Ar, H' b = H1 b ∧ G' b = none) → ∃ A', OwnA K G' H' m (pt e d') σ A' ∧ A'.Perm (Ad' ++ Ar))
    (s : Same H1 H2) (hin : a ∈ Ad) (o2 : Own K G1 (upd H2 a u) ty d' (some (.ref a)) Ad') (sub : ∀ b ∈ Ad', b ∈ Av ∨ b ∈ Ad) (nd' : Ad'.Nodup) :
    ∃ A', Step A G H A' G1 (upd H2 a u) ∧ Stt K m G1 (upd H2 a u) σ (pt e d') A' := by
  have nv := List.nodup_append.mp ndv
  have nd := hp.nodup_iff.mp nv.2.1
  have n := List.nodup_append.mp nd
  have ga : G1 a = none := (own_at o1 a hin).1
  have haA : a ∈ A1 := hp.mem_iff.mpr (List.mem_append_left _ hin)
  obtain ⟨A', oA, pA⟩ := back (Same.refl G1) o2 fun b hb => by
    have hbA := hp.mem_iff.mpr (List.mem_append_right Ad hb)
    obtain ⟨gb, o, ho⟩ := ownA_at st.own b hbA
    have hne : b ≠ a := fun z => n.2.2 a hin b hb z.symm
    refine ⟨?_, gb⟩
    rw [upd_ne hne, s b o ho, ho]
  have ndA : A'.Nodup := pA.nodup_iff.mpr (List.nodup_append.mpr ⟨nd', n.2.1, fun x hx y hy z => by
    rcases sub x hx with q | q
    · exact nv.2.2 x q y (hp.mem_iff.mpr (List.mem_append_right _ hy)) z
    · exact n.2.2 x q y hy z⟩)
  have inA : ∀ b ∈ A', b ∈ Av ++ A1 := fun b hb => by
    rcases List.mem_append.mp (pA.mem_iff.mp hb) with z | z
    · rcases sub b z with q | q
      · exact List.mem_append_left _ q
      · exact List.mem_append_right _ (hp.mem_iff.mpr (List.mem_append_left _ q))
    · exact List.mem_append_right _ (hp.mem_iff.mpr (List.mem_append_right _ z))
  refine ⟨A', ⟨s1.sg, fun b o hb hbA => ?_, fun b hb => s1.own b (inA b hb), s1.gnew⟩, ⟨oA, ndA, fun b o hb => ?_⟩⟩
  · have hne : b ≠ a := fun z => by
      rcases s1.own a (List.mem_append_right _ haA) with q | q
      · exact hbA (by rw [z]; exact q)
      · rw [← z, hb] at q; cases q
    rw [upd_ne hne]; exact s b o (s1.fr b o hb hbA)
  · rw [upd_ne (ne_of_none hb ga)]; exact s b o (st.sub b o hb)
theorem own_set {n j : Nat} {ts : List Ty} {ds : List PyData} {vs : List V} {Ai Av : List Addr} {dx : PyData} {x : V} {H3 : Hp} (oi : OwnA K G H ts ds (vs.map some) Ai) (ht : ts[j]? = some t) (ov : Own K G H t dx (some x) Av)
    (hf : ∀ b ∈ Ai, H3 b = H b) (hv : ∀ b ∈ Av, H3 b = H b) : ∃ A2, OwnA K G H3 ts (ds.set j dx) ((vs.set j x).map some) A2 ∧ ∃ A0 Aj : List Addr, A2.Perm (Av ++ A0) ∧ Ai.Perm (Aj ++ A0) := by
  obtain ⟨d0, v0, Aj, A0, e1, e2, oj, oR, pj⟩ := ownA_take oi ht
  have hu : (ts.set j .u)[j]? = some .u := by rw [List.getElem?_set_self (List.getElem?_eq_some_iff.mp ht).1]
  have inI : ∀ b ∈ A0, b ∈ Ai := fun b hb => pj.mem_iff.mpr (List.mem_append_right _ hb)
  obtain ⟨A2, o2, p2⟩ := ownA_put (ownA_fr (H' := H3) oR (Same.refl G) (fun b hb => (ownA_at oi b (inI b hb)).1) fun b hb => hf b (inI b hb)) hu (own_fr (H' := H3) ov (Same.refl G) (fun b hb => (own_at ov b hb).1) hv)
  rw [List.set_set, set_id ht] at o2
  exact ⟨A2, by rw [List.map_set]; exact o2, A0, Aj, p2, pj⟩
theorem DS.setL {tv to ti : TE} {f : Ef} {g gi : Gq} {pt : Pf} (hv : DE K m tv t f m1) (hp : DPl K m1 to (.l t) g pt) (hi : DQv K m1 ti gi) (pn : ∀ {σ : St}, Pin M.po σ σ) : DS K M m (tAsg tv (L2.gSub to ti rSetL)) (sSet g pt gi f) m1 := by
  intro G H σ e A o e' D st hf k
  obtain ⟨⟨dx, e1⟩, hf0, hf⟩ := Option.bind_eq_some_iff.mp hf
  obtain ⟨dl, h1, hf⟩ := Option.bind_eq_some_iff.mp hf
  obtain ⟨di, h2, hf⟩ := Option.bind_eq_some_iff.mp hf
  refine hv st hf0 fun G1 H1 x Av A1 s1 st1 ov ndv => ?_
  obtain ⟨a, Ad, Ar, hp1, o1, ev, back⟩ := hp st1 h1
  have o1' := o1
  cases o1 with
  | @l _ _ vs ds Ai ga ha hz oi =>
    cases di with
    | int i =>
      obtain ⟨j, hj, hf⟩ := Option.map_eq_some_iff.mp hf
      cases hf
      have len : vs.length = ds.length := by have := (ownA_len oi).2; simpa using this
      have hjl : j < ds.length := (ixN_seq hj).2.1
      refine ev fun H2 sH2 => hi (stt_grow st1 sH2).2 h2 fun H3 y sH3 qy => ?_
      cases qy
      have s13 := sH2.trans sH3
      refine ⟨a, vs, i, j, rfl, rfl, s13 _ _ ha, by rw [len]; exact hj, ?_⟩
      have nv := List.nodup_append.mp ndv
      have nd := hp1.nodup_iff.mp nv.2.1
      have n := List.nodup_append.mp nd
      have n1 := List.nodup_cons.mp n.1
      have haA : a ∈ A1 := hp1.mem_iff.mpr (List.mem_append_left _ (List.mem_cons_self ..))
      have fr1 : ∀ b, b ≠ a → (∃ o, H1 b = some o) → upd H3 a (.lst (vs.set j x)) b = H1 b := fun b hb ⟨o, ho⟩ => by rw [upd_ne hb, s13 b o ho, ho]
      obtain ⟨A2, o2, A0, Aj, p2, pj⟩ := own_set (n := 0) (H3 := upd H3 a (.lst (vs.set j x))) oi (repl_get hjl) ov (fun b hb => fr1 b (fun z => n1.1 (by rw [← z]; exact hb)) (ownA_at oi b hb).2)
        (fun b hb => fr1 b (fun z => nv.2.2 b hb a haA z) (own_at ov b hb).2)
      have nj := List.nodup_append.mp (pj.nodup_iff.mp n1.2)
      have in2 : ∀ b ∈ A2, b ∈ Av ∨ b ∈ Ai := fun b hb => (List.mem_append.mp (p2.mem_iff.mp hb)).imp id fun z => pj.mem_iff.mpr (List.mem_append_right _ z)
      have nd2 : A2.Nodup := p2.nodup_iff.mpr (List.nodup_append.mpr ⟨nv.1, nj.2.1, fun x hx y hy z => nv.2.2 x hx y (hp1.mem_iff.mpr (List.mem_append_left _ (List.mem_cons_of_mem _ (pj.mem_iff.mpr (List.mem_append_right _ hy))))) z⟩)
      obtain ⟨A', s4, st4⟩ := pl_wrote2 (u := .lst (vs.set j x)) (Ad' := a :: A2) s1 st1 ov ndv hp1 o1' back s13 (List.mem_cons_self ..) (.l ga upd_same (by rw [List.length_set]; exact hz) (by rw [List.length_set]; exact o2)) (fun b hb => by
        rcases List.mem_cons.mp hb with z | z
        · rw [z]; exact .inr (List.mem_cons_self ..)
        · exact (in2 b z).imp id fun z => List.mem_cons_of_mem _ z) (List.nodup_cons.mpr ⟨fun z => by
          rcases in2 a z with q | q
          · exact nv.2.2 a q a haA rfl
          · exact n1.1 q, nd2⟩)
      exact k G1 _ σ A' s4 st4 pn
    | _ => cases hf
theorem DS.setR {tv to ti : TE} {f : Ef} {g gi : Gq} {pt : Pf} {c : Nat} (hv : DE K m tv t f m1) (hp : DPl K m1 to (.r ts) g pt) (hi : DQv K m1 ti gi) (hc : ∀ e, gi e = some (.int (c : Nat))) (ht : ts[c]? = some t) (pn : ∀ {σ : St}, Pin M.po σ σ) : DS K M m (tAsg tv (L2.gSub to ti rSetL)) (sSet g pt gi f) m1 := by
  intro G H σ e A o e' D st hf k
  obtain ⟨⟨dx, e1⟩, hf0, hf⟩ := Option.bind_eq_some_iff.mp hf
  obtain ⟨dl, h1, hf⟩ := Option.bind_eq_some_iff.mp hf
  obtain ⟨di, h2, hf⟩ := Option.bind_eq_some_iff.mp hf
  refine hv st hf0 fun G1 H1 x Av A1 s1 st1 ov ndv => ?_
  obtain ⟨a, Ad, Ar, hp1, o1, ev, back⟩ := hp st1 h1
  have o1' := o1
  cases o1 with
  | @r _ _ vs ds Ai ga ha hz oi =>
    rw [hc] at h2; cases h2
    obtain ⟨j, hj, hf⟩ := Option.map_eq_some_iff.mp hf
    cases hf
    have hjk : j = c := by
      have q := ixN_seq hj
      have q1 := q.1
      rw [seqIndex_of (by omega) (by omega)] at q1
      have := Option.some.inj q1
      omega
    subst hjk
    have len : vs.length = ds.length := by have := (ownA_len oi).2; simpa using this
    refine ev fun H2 sH2 => hi (stt_grow st1 sH2).2 (hc e1) fun H3 y sH3 qy => ?_
    cases qy
    have s13 := sH2.trans sH3
    refine ⟨a, vs, _, j, rfl, rfl, s13 _ _ ha, by rw [len]; exact hj, ?_⟩
    have nv := List.nodup_append.mp ndv
    have nd := hp1.nodup_iff.mp nv.2.1
    have n := List.nodup_append.mp nd
    have n1 := List.nodup_cons.mp n.1
    have haA : a ∈ A1 := hp1.mem_iff.mpr (List.mem_append_left _ (List.mem_cons_self ..))
    have fr1 : ∀ b, b ≠ a → (∃ o, H1 b = some o) → upd H3 a (.lst (vs.set j x)) b = H1 b := fun b hb ⟨o, ho⟩ => by rw [upd_ne hb, s13 b o ho, ho]
    obtain ⟨A2, o2, A0, Aj, p2, pj⟩ := own_set (n := 0) (H3 := upd H3 a (.lst (vs.set j x))) oi ht ov (fun b hb => fr1 b (fun z => n1.1 (by rw [← z]; exact hb)) (ownA_at oi b hb).2)
      (fun b hb => fr1 b (fun z => nv.2.2 b hb a haA z) (own_at ov b hb).2)
    have nj := List.nodup_append.mp (pj.nodup_iff.mp n1.2)
    have in2 : ∀ b ∈ A2, b ∈ Av ∨ b ∈ Ai := fun b hb => (List.mem_append.mp (p2.mem_iff.mp hb)).imp id fun z => pj.mem_iff.mpr (List.mem_append_right _ z)
    have nd2 : A2.Nodup := p2.nodup_iff.mpr (List.nodup_append.mpr ⟨nv.1, nj.2.1, fun x hx y hy z => nv.2.2 x hx y (hp1.mem_iff.mpr (List.mem_append_left _ (List.mem_cons_of_mem _ (pj.mem_iff.mpr (List.mem_append_right _ hy))))) z⟩)
    obtain ⟨A', s4, st4⟩ := pl_wrote2 (u := .lst (vs.set j x)) (Ad' := a :: A2) s1 st1 ov ndv hp1 o1' back s13 (List.mem_cons_self ..) (.r ga upd_same (by rw [List.length_set]; exact hz) o2) (fun b hb => by
      rcases List.mem_cons.mp hb with z | z
      · rw [z]; exact .inr (List.mem_cons_self ..)
      · exact (in2 b z).imp id fun z => List.mem_cons_of_mem _ z) (List.nodup_cons.mpr ⟨fun z => by
        rcases in2 a z with q | q
        · exact nv.2.2 a q a haA rfl
        · exact n1.1 q, nd2⟩)
    exact k G1 _ σ A' s4 st4 pn
/-- a stable item of an owned list -/
theorem DE.itm {te ti : TE} {g gi : Gq} {pt : Pf} (hp : DPl K m te (.l .s) g pt) (hi : DQv K m ti gi) : DE K m (tOp (rIxL K) te ti) .s (eItm g gi) m := by
  intro G H σ e A d e' Q st hf k
  obtain ⟨dl, h1, hf⟩ := Option.bind_eq_some_iff.mp hf
  obtain ⟨di, h2, hf⟩ := Option.bind_eq_some_iff.mp hf
  obtain ⟨a, Ad, Ar, hp1, o1, ev, back⟩ := hp st h1
  cases o1 with
  | @l _ _ vs ds Ai ga ha hz oi =>
    cases di with
    | int i =>
      obtain ⟨x, hx, hf⟩ := Option.map_eq_some_iff.mp hf
      cases hf
      obtain ⟨j, hj, hx⟩ := Option.bind_eq_some_iff.mp (show (ixN ds.length i).bind _ = _ from hx)
      obtain ⟨rfl, qi⟩ := of_ownA oi
      obtain ⟨v, hv, qv⟩ := qi.get hx
      refine ev fun H1 s1 => hi (stt_grow st s1).2 h2 fun H2 y s2 qy => ?_
      cases qy
      have s12 := s1.trans s2
      exact ⟨a, vs, i, v, rfl, rfl, .inl (.inl (s12 _ _ ha)), by unfold atI; rw [qi.1, hj]; exact hv, k G H2 v [] A (stt_grow st s12).1 (stt_grow st s12).2 (.s qv) st.nd⟩
    | _ => cases hf
end
section
variable {ι : Type} {Xf : ι → Cx} {P : Program} {w : World} {K : PySem.W.Frag} {mg : Str → Option Value} {base : Heap} {n : Nat} [F : Fam Xf P w K mg base n]
variable {M : Mk} {m m1 m2 mn ml : List Ty} {pos p p2 spos apos cpos : Pos} {a b c v o i : Expr} {f : Ef} {g gi gv : Gq} {pt : Pf} {t ty : Ty} {ts : List Ty}
include F
theorem pd_itm (hp : PPl Xf K m a (.l .s) g pt) (hi : PQ Xf K m b gi) (hs : PlainIx b := by exact fun _ _ => rfl) : PD Xf K m (.Subscript a b pos) .s (eItm g gi) m := by
  obtain ⟨ta, pa, da⟩ := hp.ex
  obtain ⟨tb, pb, db⟩ := hi.ex
  exact ⟨_, fun i => by have := pe_ix (ix_list (X := Xf i)) (pa i) (pb i) hs (pos := pos); rw [F.kk i] at this; exact this, DE.itm da db⟩
theorem pd_app (j : Nat) {x : Str} {xp : Pos} (hv0 : PD Xf K (m.set j .u) v t f m1) (hm : m[j]? = some (.l t) := by rfl) (hm1 : m1[j]? = some .u := by rfl) (hN : ∀ i, (Xf i).N[j]? = some x := by intro _; rfl)
    (hv : ∀ i, Vis (Xf i).env.scope x := by first | (intro _; exact Or.inl rfl) | (intro _; exact Or.inr (Or.inl rfl)) | (intro _; exact Or.inr (Or.inr rfl))) (hd : (x == ("__debug__" : Str)) = false := by decide) (hcd : (x == ("__classdict__" : Str)) = false := by decide)
    (hbase : ∀ i, attributeBase (.Name x xp) "append" (Xf i).env (eval (.Name x xp) (Xf i).env) = eval (.Name x xp) (Xf i).env := by intro _; rfl)
    (hfew : ∀ i, ((backTo cpos (starEach [v] (Xf i).env)).all (fun x => !x.1) && (backToKw cpos (keywordEach [] (Xf i).env)).all (fun x => x.1.isSome)
      && decide ([v].length + ([] : List Keyword).length + (if ([] : List Keyword).isEmpty then 0 else 1) < 30)) = true := by intro _; rfl)
    (hline : (apos.endLine == cpos.line) = true := by rfl) (hs : ∀ i, starEach [v] (Xf i).env = (false, eval v (Xf i).env) :: starEach [] (Xf i).env := by intro _; rfl) (hplain : ∀ i, (backTo cpos (starEach [] (Xf i).env)).any (·.1) = false := by intro _; rfl) :
    PD Xf K m (.Call (.Attribute (.Name x xp) "append" apos) [v] [] cpos) .s (eApp j f) (m1.set j (.l t)) := by
  obtain ⟨tv, pv, dv⟩ := hv0.ex
  exact ⟨_, fun i => by have := pe_bm PySem.F.plainAttrs_list PySem.F.slot_list_append PySem.F.type_list_append (mt_append (X := Xf i)) (pe_var (hN i) (hv i) hd hcd) (pa_cons (pv i) pa_nil (hs i)) (hbase i) (hfew i) hline (hs i) (hplain i); rw [F.kk i] at this; exact this, DE.app hm dv hm1⟩
theorem pd_appV (hp : PPl Xf K m o (.l .s) g pt) (hv0 : PV Xf K m v gv)
    (hbase : ∀ i, attributeBase o "append" (Xf i).env (eval o (Xf i).env) = eval o (Xf i).env := by intro _; rfl)
    (hfew : ∀ i, ((backTo cpos (starEach [v] (Xf i).env)).all (fun x => !x.1) && (backToKw cpos (keywordEach [] (Xf i).env)).all (fun x => x.1.isSome)
      && decide ([v].length + ([] : List Keyword).length + (if ([] : List Keyword).isEmpty then 0 else 1) < 30)) = true := by intro _; rfl)
    (hline : (apos.endLine == cpos.line) = true := by rfl) (hs : ∀ i, starEach [v] (Xf i).env = (false, eval v (Xf i).env) :: starEach [] (Xf i).env := by intro _; rfl) (hplain : ∀ i, (backTo cpos (starEach [] (Xf i).env)).any (·.1) = false := by intro _; rfl) :
    PD Xf K m (.Call (.Attribute o "append" apos) [v] [] cpos) .s (eAppV g pt gv) m := by
  obtain ⟨ta, pa, da⟩ := hp.ex
  obtain ⟨tv, pv, dv⟩ := hv0.ex
  exact ⟨_, fun i => by have := pe_bm PySem.F.plainAttrs_list PySem.F.slot_list_append PySem.F.type_list_append (mt_append (X := Xf i)) (pa i) (pa_cons (pv i) pa_nil (hs i)) (hbase i) (hfew i) hline (hs i) (hplain i); rw [F.kk i] at this; exact this, DE.appV da dv⟩
theorem pd_pop (hp : PPl Xf K m o (.l t) g pt) (hbase : ∀ i, attributeBase o "pop" (Xf i).env (eval o (Xf i).env) = eval o (Xf i).env := by intro _; rfl) (hline : (apos.endLine == cpos.line) = true := by rfl) :
    PD Xf K m (.Call (.Attribute o "pop" apos) [] [] cpos) t (ePop g pt) m := by
  obtain ⟨ta, pa, da⟩ := hp.ex
  exact ⟨_, fun i => by have := pe_bm0 PySem.F.plainAttrs_list PySem.F.slot_list_pop PySem.F.type_list_pop (mt_pop (X := Xf i)) (pa i) (hbase i) hline; rw [F.kk i] at this; exact this, DE.pop da⟩
theorem pd_popAt (hp : PPl Xf K m o (.l t) g pt) (hi : PQ Xf K m v gi) (hbase : ∀ i, attributeBase o "pop" (Xf i).env (eval o (Xf i).env) = eval o (Xf i).env := by intro _; rfl)
    (hfew : ∀ i, ((backTo cpos (starEach [v] (Xf i).env)).all (fun x => !x.1) && (backToKw cpos (keywordEach [] (Xf i).env)).all (fun x => x.1.isSome)
      && decide ([v].length + ([] : List Keyword).length + (if ([] : List Keyword).isEmpty then 0 else 1) < 30)) = true := by intro _; rfl)
    (hline : (apos.endLine == cpos.line) = true := by rfl) (hs : ∀ i, starEach [v] (Xf i).env = (false, eval v (Xf i).env) :: starEach [] (Xf i).env := by intro _; rfl) (hplain : ∀ i, (backTo cpos (starEach [] (Xf i).env)).any (·.1) = false := by intro _; rfl) :
    PD Xf K m (.Call (.Attribute o "pop" apos) [v] [] cpos) t (ePopAt g pt gi) m := by
  obtain ⟨ta, pa, da⟩ := hp.ex
  obtain ⟨tv, pv, dv⟩ := hi.ex
  exact ⟨_, fun i => by have := pe_bm PySem.F.plainAttrs_list PySem.F.slot_list_pop PySem.F.type_list_pop (mt_popAt (X := Xf i)) (pa i) (pa_cons (pv i) pa_nil (hs i)) (hbase i) (hfew i) hline (hs i) (hplain i); rw [F.kk i] at this; exact this, DE.popAt da dv⟩
theorem ds_setL (hv : PD Xf K m v t f m1) (hp : PPl Xf K m1 o (.l t) g pt) (hi : PQ Xf K m1 i gi)
    (ha : ∀ z v, assign (.Subscript o i pos) (Xf z).env v = (do
      let ov ← holding [v] (eval o (Xf z).env)
      let iv ← holding [v, ov] (eval i (Xf z).env)
      standAt pos
      holding [v, ov, iv] (setItem ov iv v)
      release [v, ov, iv] []) := by intro _ _; rfl)
    (hs : ∀ z, swapsWithSole [.Subscript o i pos] v spos.line (Xf z).env = pure false := by intro _; rfl) (hw : ∀ z, swappedStores [.Subscript o i pos] v (Xf z).env = pure none := by intro _; rfl)
    (h1 : ∀ z, (assignEach [.Subscript o i pos] (Xf z).env).map (·.2) = [assign (.Subscript o i pos) (Xf z).env] := by intro _; rfl) : PSd Xf K M m (.Assign [.Subscript o i pos] v spos) (sSet g pt gi f) m1 := by
  obtain ⟨tv, pv, dv⟩ := hv.ex
  obtain ⟨ta, pa, da⟩ := hp.ex
  obtain ⟨tb, pb, db⟩ := hi.ex
  exact ⟨_, fun z => ps_asg (pv z) (pg_sub (pa z) (pb z) set_list (ha z)) (hs z) (hw z) (h1 z), DS.setL dv da db Pin.refl⟩
theorem ds_setR (c : Nat) {ci : Int} {cj} (hv : PD Xf K m v t f m1) (hp : PPl Xf K m1 o (.r ts) g pt) (hc : ci = (c : Nat) := by rfl) (ht : ts[c]? = some t := by rfl)
    (ha : ∀ z v, assign (.Subscript o (.Constant (.int ci) cj p) pos) (Xf z).env v = (do
      let ov ← holding [v] (eval o (Xf z).env)
      let iv ← holding [v, ov] (eval (.Constant (.int ci) cj p) (Xf z).env)
      standAt pos
      holding [v, ov, iv] (setItem ov iv v)
      release [v, ov, iv] []) := by intro _ _; rfl)
    (hs : ∀ z, swapsWithSole [.Subscript o (.Constant (.int ci) cj p) pos] v spos.line (Xf z).env = pure false := by intro _; rfl) (hw : ∀ z, swappedStores [.Subscript o (.Constant (.int ci) cj p) pos] v (Xf z).env = pure none := by intro _; rfl)
    (h1 : ∀ z, (assignEach [.Subscript o (.Constant (.int ci) cj p) pos] (Xf z).env).map (·.2) = [assign (.Subscript o (.Constant (.int ci) cj p) pos) (Xf z).env] := by intro _; rfl) : PSd Xf K M m (.Assign [.Subscript o (.Constant (.int ci) cj p) pos] v spos) (sSet g pt (qC (.int ci)) f) m1 := by
  obtain ⟨tv, pv, dv⟩ := hv.ex
  obtain ⟨ta, pa, da⟩ := hp.ex
  obtain ⟨tb, pb, db⟩ := (pq_int (Xf := Xf) (K := K) (m := m1) (i := ci) (j := cj) (pos := p)).ex
  exact ⟨_, fun z => ps_asg (pv z) (pg_sub (pa z) (pb z) set_list (ha z)) (hs z) (hw z) (h1 z), DS.setR dv da db (fun e => by subst hc; rfl) ht Pin.refl⟩
end
end DL

namespace DL
open PySem L2 PySem.Spec

/-! ### the script -/
section
variable {ι : Type} {Xf : ι → Cx} {P : Program} {w : World} {K : PySem.W.Frag} {mg : Str → Option Value} {base : Heap} {n : Nat} [F : Fam Xf P w K mg base n]
variable {m m1 m2 m3 : List Ty} {pos p p2 : Pos} {a b c tg : Expr} {f g h : Ef}
theorem own_q {K : PySem.W.Frag} {G H : Hp} {d : PyData} {v : Option V} {A : List Addr} (o : Own K G H .q d v A) : A = [] ∧ ∃ (a : Addr) (ns : List Int), v = some (.ref a) ∧ d = .list (ns.map .int) ∧ SqL K G a (ns.map V.int) ∧ ns.length ≤ sizeLine := by
  cases o with
  | q h hz => exact ⟨rfl, _, _, rfl, rfl, h, hz⟩
theorem dqA_nums {K : PySem.W.Frag} {G : Hp} : ∀ ns : List Int, DqA K G (ns.map V.int) (ns.map PyData.int)
  | [] => DqA.nil
  | i :: ns => DqA.cons (.int i) (dqA_nums ns)
theorem walkD_q {K : PySem.W.Frag} {G : Hp} {a : Addr} {ns : List Int} (h : SqL K G a (ns.map V.int)) : WalkD K G (Itl K a) (ns.map PyData.int) := by
  refine ⟨fun i H hi s => ?_, fun H s => ⟨_, same_seqL s h, by simp⟩, fun {i H x H' m G' σ e A} hi s st y => ?_⟩
  · rw [List.length_map] at hi
    exact ⟨_, .int ns[i], same_seqL s h, by rw [List.getElem?_map, List.getElem?_eq_getElem hi]; rfl⟩
  · obtain ⟨rfl, y⟩ := y
    refine ⟨G', Step.refl, st, Same.refl _, fun d hd => ?_⟩
    exact ((dqA_nums (K := K) (G := G) ns).2 i x d (y _ (same_seqL (s.trans st.sub) h)) hd).mono s
include F in
theorem pi_q (j : Nat) {x : Str} (hm : m[j]? = some .q := by rfl) (hN : ∀ i, (Xf i).N[j]? = some x := by intro _; rfl)
    (hv : ∀ i, Vis (Xf i).env.scope x := by first | (intro _; exact Or.inl rfl) | (intro _; exact Or.inr (Or.inl rfl)) | (intro _; exact Or.inr (Or.inr rfl))) (hd : (x == ("__debug__" : Str)) = false := by decide)
    (hcd : (x == ("__classdict__" : Str)) = false := by decide) : PIt Xf K m tg (.Name x pos) (iSeq (eVar j)) m := by
  refine ⟨_, fun i => (by have := pi_list (tg := tg) (pe_var (X := Xf i) (pos := pos) (hN i) (hv i) hd hcd); rw [F.kk i] at this; exact this), fun {G H σ e A ds e' R} st hf k => ?_⟩
  obtain ⟨d', v, Aj, A0, h1, h2, h3, _, _⟩ := ownA_take st.own hm
  obtain ⟨_, a, ns, rfl, rfl, hq, hz⟩ := own_q h3
  have hf : (seqD (e.getD j .none)).bind (fun ds => some (ds, e)) = some (ds, e') := hf
  rw [List.getD_eq_getElem?_getD, h1] at hf
  cases hf
  exact ⟨.ref a, h2, a, rfl, ⟨_, same_seqL st.sub hq⟩, k G H A _ Step.refl st (walkD_q hq) (by rw [List.length_map]; exact hz)⟩
/-- len(script) -/
def eLenQ (j : Nat) : Ef := fun e => match e.getD j .none with
  | .list ds => some (.int ds.length, e)
  | _ => none
include F in
theorem pd_lenQ (j : Nat) {x : Str} (hml : mg "len" = none) (hm : m[j]? = some .q := by rfl) (hN : ∀ i, (Xf i).N[j]? = some x := by intro _; rfl)
    (hv : ∀ i, Vis (Xf i).env.scope x := by first | (intro _; exact Or.inl rfl) | (intro _; exact Or.inr (Or.inl rfl)) | (intro _; exact Or.inr (Or.inr rfl))) (hd : (x == ("__debug__" : Str)) = false := by decide)
    (hcd : (x == ("__classdict__" : Str)) = false := by decide) (hg : ∀ i, Gl (Xf i) "len" := by intro _; rfl) (he : ∀ i, starEach [.Name x p2] (Xf i).env = (false, eval (.Name x p2) (Xf i).env) :: starEach [] (Xf i).env := by intro _; rfl) (hpl : ∀ i, (backTo pos (starEach [] (Xf i).env)).any (·.1) = false := by intro _; rfl) :
    PD Xf K m (.Call (.Name "len" p) [.Name x p2] [] pos) .s (eLenQ j) m := by
  refine ⟨_, fun i => (by have := pe_callB (X := Xf i) (pos := pos) (p := p) (call_len_seq (X := Xf i)) (hg i) (by rw [F.mg_ i]; exact hml) bt_len (pa_cons (pe_var (pos := p2) (hN i) (hv i) hd hcd) pa_nil (he i)) (by decide) (by decide) (he i) (hpl i); rw [F.kk i] at this; exact this), fun {G H σ e A d e' Q} st hf k => ?_⟩
  obtain ⟨d', v, Aj, A0, h1, h2, h3, _, _⟩ := ownA_take st.own hm
  obtain ⟨_, a, ns, rfl, rfl, hq, hz⟩ := own_q h3
  unfold eLenQ at hf
  rw [List.getD_eq_getElem?_getD, h1] at hf
  cases hf
  refine ⟨.ref a, h2, a, _, rfl, .inl (same_seqL st.sub hq), ?_⟩
  have e : (((ns.map V.int).length : Nat) : Int) = (((ns.map PyData.int).length : Nat) : Int) := by rw [List.length_map, List.length_map]
  rw [e]
  exact ans_s st (.int _) k
def eSlQ (j : Nat) (lo hi : Option Int) : Ef := fun e => (gSlL (e.getD j .none) lo hi).map fun d => (d, e)
end

/-! ### a def's body as a function of its arguments -/
def stb : Ty → Bool
  | .u => true
  | .s => true
  | .q => true
  | _ => false
inductive FinOk (po : List Nat) : Nat → List Ty → List Ty → Prop
  | nil (j : Nat) (m : List Ty) : FinOk po j [] m
  | stb {j : Nat} {t t' : Ty} {ts m : List Ty} : stb t = true → FinOk po (j + 1) ts m → FinOk po j (t :: ts) (t' :: m)
  | own {j : Nat} {t : Ty} {ts m : List Ty} : j ∈ po → FinOk po (j + 1) ts m → FinOk po j (t :: ts) (t :: m)
def fins : List Ty → List PyData → List PyData → List PyData
  | t :: ts, d :: ds, e :: es => (if stb t = true then d else e) :: fins ts ds es
  | _, _, _ => []
def runF (f : Sf) (ptys : List Ty) (r : Nat) : DFn := fun ds => (f (ds ++ List.replicate r .none)).bind fun p => match p.1 with
  | .rt d => some (d, fins ptys ds p.2)
  | .nx => some (.none, fins ptys ds p.2)
  | _ => none
section
variable {K : PySem.W.Frag} {G H G1 H1 : Hp}
theorem own_stb {t : Ty} {d : PyData} {v : Option V} {A : List Addr} (o : Own K G H t d v A) (h : stb t = true) : A = [] := by
  cases o with
  | u => rfl
  | s => rfl
  | q => rfl
  | l => cases h
  | r => cases h
theorem fin_own {po : List Nat} {σ0 σ : St} : ∀ {j : Nat} {ts m : List Ty} {ds e : List PyData} {vs : List (Option V)} {A0 A : List Addr} {τ : List (Option V)}, FinOk po j ts m → OwnA K G H ts ds vs A0 → Same G G1 → OwnA K G1 H1 m e τ A → (∀ i, τ[i]? = σ[j + i]?) → (∀ i v, vs[i]? = some v → σ0[j + i]? = some v) → Pin po σ0 σ → A.Nodup →
    ∃ A3, OwnA K G1 H1 ts (fins ts ds e) vs A3 ∧ A3.Nodup ∧ ∀ a ∈ A3, a ∈ A := by
  intro j ts
  induction ts generalizing j with
  | nil =>
    intro m ds e vs A0 A τ fo o0 sg o h1 h2 hp nd
    cases o0
    exact ⟨[], .nil, List.nodup_nil, fun a h => by cases h⟩
  | cons t ts ih =>
    intro m ds e vs A0 A τ fo o0 sg o h1 h2 hp nd
    cases o0 with
    | @cons _ _ d ds v vs B0 B1 p1 p2 =>
      have h2' : ∀ i x, vs[i]? = some x → σ0[j + 1 + i]? = some x := fun i x hx => by
        have := h2 (i + 1) x (by simpa using hx)
        rw [show j + 1 + i = j + (i + 1) by omega]; exact this
      cases fo with
      | stb hs fo =>
        cases o with
        | @cons _ _ d' ds' v' vs' C0 C1 q1 q2 =>
          have h1' : ∀ i, vs'[i]? = σ[j + 1 + i]? := fun i => by
            have := h1 (i + 1)
            rw [show j + 1 + i = j + (i + 1) by omega, ← this]; simp
          obtain ⟨A3, o3, n3, s3⟩ := ih fo p2 sg q2 h1' h2' hp (List.nodup_append.mp nd).2.1
          obtain rfl := own_stb p1 hs
          refine ⟨A3, ?_, n3, fun a ha => List.mem_append_right _ (s3 a ha)⟩
          unfold fins
          rw [if_pos hs]
          exact OwnA.cons (A := []) (own_fr p1 sg (fun a h => by cases h) fun a h => by cases h) o3
      | own hj fo =>
        cases o with
        | @cons _ _ d' ds' v' vs' C0 C1 q1 q2 =>
          have h1' : ∀ i, vs'[i]? = σ[j + 1 + i]? := fun i => by
            have := h1 (i + 1)
            rw [show j + 1 + i = j + (i + 1) by omega, ← this]; simp
          have n := List.nodup_append.mp nd
          obtain ⟨A3, o3, n3, s3⟩ := ih fo p2 sg q2 h1' h2' hp n.2.1
          have ev : v' = v := by
            have a := h1 0
            have b := h2 0 v rfl
            have c := hp j hj
            simp only [Nat.add_zero] at a b
            rw [← a, b] at c
            simpa using c
          subst ev
          by_cases hs : stb t = true
          · obtain rfl := own_stb p1 hs
            refine ⟨A3, ?_, n3, fun a ha => List.mem_append_right _ (s3 a ha)⟩
            unfold fins
            rw [if_pos hs]
            exact OwnA.cons (A := []) (own_fr p1 sg (fun a h => by cases h) fun a h => by cases h) o3
          · refine ⟨C0 ++ A3, ?_, List.nodup_append.mpr ⟨n.1, n3, fun a ha b hb z => n.2.2 a ha b (s3 b hb) z⟩, fun a ha => ?_⟩
            · unfold fins
              rw [if_neg hs]
              exact OwnA.cons q1 o3
            · rcases List.mem_append.mp ha with z | z
              · exact List.mem_append_left _ z
              · exact List.mem_append_right _ (s3 a z)
theorem ownA_us {ts : List Ty} {ds : List PyData} {vs : List (Option V)} {A : List Addr} (r : Nat) (h : OwnA K G H ts ds vs A) : OwnA K G H (ts ++ List.replicate r .u) (ds ++ List.replicate r .none) (vs ++ List.replicate r none) A := by
  induction ts generalizing ds vs A with
  | nil =>
    cases h
    simp only [List.nil_append]
    induction r with
    | zero => exact .nil
    | succ r ih => rw [List.replicate_succ, List.replicate_succ, List.replicate_succ]; exact OwnA.cons (A := []) (.u _ _) ih
  | cons t ts ih =>
    cases h with
    | cons h1 h2 => exact .cons h1 (ih h2)
end
theorem fnG_none {P : Program} {w : World} {K : PySem.W.Frag} {mg : Str → Option Value} {base : Heap} {k : Nat} {f : Addr} {fd : FuncData} {ps : List Str} {ptys : List Ty} {rty : Ty} : FnG P w K mg base k f fd ps (spD K ptys rty fun _ => none) :=
  ⟨fun vs H Q E ⟨ds, d, fs, G, A, h, _⟩ => (by cases h), fun A outer s H args us vs Q E _ _ _ _ _ ⟨ds, d, fs, G, A', h, _⟩ => (by cases h)⟩
/-- nothing falls off the end -/
def NoNx (f : Sf) : Prop := ∀ e e', f e ≠ some (.nx, e')
theorem nnx_ret {f : Ef} : NoNx (sRet f) := fun e e' h => by
  obtain ⟨p, _, h⟩ := Option.map_eq_some_iff.mp h
  cases h
theorem nnx_seq {f g : Sf} (h : NoNx g) : NoNx (sSeq f g) := fun e e' z => by
  obtain ⟨⟨o, e1⟩, _, z⟩ := Option.bind_eq_some_iff.mp z
  cases o with
  | nx => exact h _ _ z
  | bk => cases z
  | ct => cases z
  | rt d => cases z
/-- one context, as a family -/
abbrev oneX (X : Cx) : Unit → Cx := fun _ => X
theorem fam_one {P : Program} {w : World} {K : PySem.W.Frag} {mg : Str → Option Value} {base : Heap} {N ps : List Str} {qual : Str} {scope : Scope} {f : Addr} {cdv : Value} {A : Around} {outer : List Env} {s : Shared} {H : Hp} {E : XK} {n : Nat} (S : FnScope N ps scope)
    (hr : Room n (A.deeper (PyProof.Rows.envOfC qual scope s.heap.objs.size f cdv))) : Fam (oneX (cxOf CX0 P w K mg base N qual scope f cdv A outer s H E).nox) P w K mg base n :=
  ⟨fun _ => rfl, fun _ => rfl, fun _ => rfl, fun _ => rfl, fun _ => rfl, fun _ => hr, fun _ => rfl, fun _ => S.nd⟩
/-- THE RULE for a def -/
theorem fnG_dl {P : Program} {w : World} {K : PySem.W.Frag} {mg : Str → Option Value} {base : Heap} {x qual : Str} {st : Stmt} {f : Addr} {fd : FuncData} {N ps : List Str} {k : Nat} {ptys : List Ty} {rty : Ty} {sf : Sf} {mr : List Ty} {po : List Nat} {r : Nat}
    (F : L2.Fun K x qual st f fd) (S : FnScope N ps (defScope st)) (hl : ptys.length = ps.length) (hr : N.length = ps.length + r) (fo : FinOk po 0 ptys mr) (hty : rty = .s ∨ ∀ e e', sf e ≠ some (.nx, e'))
    (hbody : ∀ (cdv : Value) (A : Around) (outer : List Env) (s : Shared) (H : Hp) (E : XK), Fam (oneX (cxOf CX0 P w K mg base N qual (defScope st) f cdv A outer s H E).nox) P w K mg base k → FamG (oneX (cxOf CX0 P w K mg base N qual (defScope st) f cdv A outer s H E).nox) → FamN (oneX (cxOf CX0 P w K mg base N qual (defScope st) f cdv A outer s H E).nox) →
      PSsd (oneX (cxOf CX0 P w K mg base N qual (defScope st) f cdv A outer s H E).nox) K ⟨[], [], mr, po, rty⟩ (ptys ++ List.replicate r .u) (defBody st) sf mr) : FnG P w K mg base (k + 1) f fd ps (spD K ptys rty (runF sf ptys r)) := by
  refine fnG_of F S (fun vs H Q E h => ?_) fun cdv A outer s H vs Q E room gd h => ?_
  · obtain ⟨ds, d, fs, G, A, _, o, _⟩ := h
    have := ownA_len o
    rw [List.length_map] at this
    omega
  · obtain ⟨ds, d, fs, G, A0, hF, o0, nd, sub, kont⟩ := h
    have ln := ownA_len o0
    rw [List.length_map] at ln
    obtain ⟨t, pt, dt⟩ := (hbody cdv A outer s H E (fam_one S room) ⟨fun _ => gd⟩ ⟨fun _ => PassesOwn.never⟩).ex
    refine ⟨t, pt (), ?_⟩
    obtain ⟨⟨o, e'⟩, h1, h2⟩ := Option.bind_eq_some_iff.mp hF
    have hst : L2.start N vs = vs.map some ++ List.replicate r none := by
      unfold L2.start
      rw [show N.length - vs.length = r by omega]
    have st0 : Stt K (ptys ++ List.replicate r .u) G H (L2.start N vs) (ds ++ List.replicate r .none) A0 := ⟨by rw [hst]; exact ownA_us r o0, nd, sub⟩
    refine dt st0 h1 ?_
    have fin : ∀ {G' H' : Hp} {σ' : St} {A' : List Addr}, Same G G' → Stt K mr G' H' σ' e' A' → Pin po (L2.start N vs) σ' → ∃ A3, OwnA K G' H' ptys (fins ptys ds e') (vs.map some) A3 ∧ A3.Nodup ∧ ∀ a ∈ A3, a ∈ A' := fun {G' H' σ' A'} sg st' pn =>
      fin_own (j := 0) fo o0 sg st'.own (fun i => by rw [Nat.zero_add]) (fun i v hv => by
        rw [Nat.zero_add, hst, List.getElem?_append_left (List.getElem?_eq_some_iff.mp hv).1]; exact hv) pn st'.nd
    cases o with
    | nx =>
      cases h2
      rcases hty with hty | hty
      · subst hty
        exact fun G' H' σ' A' s' st' pn => by
          obtain ⟨A3, o3, n3, s3⟩ := fin s'.sg st' pn
          exact kont G' H' .non [] A3 (s'.less s3) o3 (.s .non) n3 st'.sub
      · exact absurd h1 (hty _ _)
    | bk => cases h2
    | ct => cases h2
    | rt d1 =>
      cases h2
      intro G' H' σ' v Av A' s' st' ov ndv pn
      obtain ⟨A3, o3, n3, s3⟩ := fin s'.sg st' pn
      have n := List.nodup_append.mp ndv
      refine kont G' H' v Av A3 (s'.less fun a ha => ?_) o3 ov (List.nodup_append.mpr ⟨n.1, n3, fun a ha b hb z => n.2.2 a ha b (s3 b hb) z⟩) st'.sub
      rcases List.mem_append.mp ha with z | z
      · exact List.mem_append_left _ z
      · exact List.mem_append_right _ (s3 a z)
end DL

namespace DL
open PySem L2 PySem.Spec PyProof.Rows

/-! ### the law's own call -/
/-- only the script at a is tracked, unless the module's written part holds it -/
def hScr (K : PySem.W.Frag) (a : Addr) (u : HO) : Hp := fun b => if b = a ∧ K.lookup a = none then some u else none
theorem hScr_some {K : PySem.W.Frag} {a b : Addr} {u z : HO} (h : hScr K a u b = some z) : b = a ∧ K.lookup a = none ∧ z = u := by
  unfold hScr at h
  split at h
  · rename_i c; exact ⟨c.1, c.2, (Option.some.inj h).symm⟩
  · cases h
theorem hScr_none {K : PySem.W.Frag} {a b : Addr} {u : HO} (h : b ≠ a ∨ K.lookup a ≠ none) : hScr K a u b = none := by
  unfold hScr
  rw [if_neg]
  rintro ⟨c1, c2⟩
  exact h.elim (fun z => z c1) fun z => z c2
section
variable {P : Program} {w : World} {K : PySem.W.Frag} {mg mb : Str → Option Value} {k : Nat} {fa a : Addr} {fd : FuncData} {x : Str} {s₁ : Shared} {vs : List Value} {ns : List Int} {Fn : DFn}
theorem scr_env (KX : K.In s₁.heap) (hns : s₁.heap.Ns mainGlobals mg) (hb : s₁.heap.Ns builtinsNs mb) (hbb : ∀ x : Str, x ≠ "__name__" → mb x = bootBuiltins x) (hlim : s₁.heap.NoLimit) (hg : s₁.gens = #[])
    {ob : Obj} {u : HO} (ha : s₁.heap.get? a = some ob) (hd : ∀ es ep, ob.data ≠ .dict es ep) (hu : ∀ H, ObjOk P w H s₁.heap a u) :
    K.In (hidT s₁.heap (hScr K a u)) ∧ (hidT s₁.heap (hScr K a u)).Ns mainGlobals mg ∧ Env0 P w K mg (hidT s₁.heap (hScr K a u)) callerA [] s₁ (hScr K a u) := by
  have up : ∀ {b : Addr} {o : Obj}, s₁.heap.get? b = some o → (b ≠ a ∨ K.lookup a ≠ none) → (hidT s₁.heap (hScr K a u)).get? b = some o := fun e n => hidT_get e (hScr_none n)
  have ns' : ∀ {b : Addr} {m : Str → Option Value}, s₁.heap.Ns b m → (hidT s₁.heap (hScr K a u)).Ns b m := by
    rintro b m ⟨o, es, ep, e, d, r⟩
    refine ⟨o, es, ep, up e (.inl fun z => ?_), d, r⟩
    subst z
    rw [ha] at e
    exact hd es ep ((Option.some.inj e) ▸ d)
  have kin : K.In (hidT s₁.heap (hScr K a u)) := fun b o e => up (KX b o e) (by
    by_cases z : b = a
    · subst z; exact .inr (by rw [e]; exact fun q => by cases q)
    · exact .inl z)
  obtain ⟨mc, hl1, hl2⟩ := hlim
  refine ⟨kin, ns' hns, rfl, ⟨kin, ns' hns, ⟨mb, ns' hb, hbb⟩, mc, ns' hl1, hl2⟩, fun b o e => of_hidT e, Nat.le_of_eq (hidT_size _ _), trivial, fun b hb => ?_, fun b z hz => ?_, .of_eq hg⟩
  · cases hb
  · obtain ⟨rfl, _, rfl⟩ := hScr_some hz
    exact hu _
theorem law_callG (KX : K.In s₁.heap) (hns : s₁.heap.Ns mainGlobals mg) (hb : s₁.heap.Ns builtinsNs mb) (hbb : ∀ x : Str, x ≠ "__name__" → mb x = bootBuiltins x) (hlim : s₁.heap.NoLimit) (hg : s₁.gens = #[])
    (ha : s₁.heap.get? a = some { cls := .type "list", data := .seq vs.toArray }) (hi : IntsAre vs ns) (hl : ns.length ≤ sizeLine) (hr : Room k callerA)
    (F : ∀ base : Heap, K.In base → base.Ns mainGlobals mg → FnG P w K mg base k fa fd [x] (spD K [.q] .s Fn)) (hbind : ∀ (s : Shared) (u : Value), BindsTo s fd ⟨[u], []⟩ [(x, u)])
    (hF : ∃ fs, Fn [.list (ns.map .int)] = some (.bool true, fs)) :
    codeAny (model P w) callerA (.call (.ref fa) ⟨[.ref a], []⟩) (fun r s' => r = .ok (.ret (.bool true)) ∧ OldK s₁.heap s'.heap ∧ s'.os = s₁.os ∧ AllBare s'.gens) s₁ := by
  obtain ⟨fs, hF⟩ := hF
  have rv := vals_ints hi
  have okA : ∀ H, ObjOk P w H s₁.heap a (.frz { cls := .type "list", data := .seq vs.toArray } (.lst (ns.map V.int))) := fun H => ⟨ha, by rw [List.length_map]; exact hl, vs, _, rv, ha⟩
  obtain ⟨k1, k2, e0⟩ := scr_env KX hns hb hbb hlim hg ha (fun es ep z => by cases z) okA
  have hS : SqL K (hScr K a (.frz { cls := .type "list", data := .seq vs.toArray } (.lst (ns.map V.int)))) a (ns.map V.int) := by
    cases hk : K.lookup a with
    | none => exact .inl (.inr ⟨_, if_pos ⟨rfl, hk⟩⟩)
    | some o =>
      have e := KX a o hk
      rw [ha] at e
      cases e
      exact .inr ⟨_, vs.toArray, _, hk, rfl, rfl, rfl, by rw [List.size_toArray, hi.length]; exact hl, by simpa using rv⟩
  refine codeAny_mono ((F _ k1 k2).run callerA [] s₁ _ ⟨[.ref a], []⟩ [.ref a] [.ref a] (fun v _ => v = .bl true) E0 hr rfl e0 (hbind s₁ (.ref a)) (.cons rfl .nil)
    ⟨_, _, fs, _, [], hF, OwnA.cons (A := []) (.q hS hl) .nil, List.nodup_nil, Same.refl _, fun G' H' v Av A' _ _ o _ _ => by
      cases o with
      | s q => cases q; rfl⟩) fun r s' h => ?_
  cases r with
  | error e => exact False.elim h
  | ok fl =>
    cases fl with
    | ret u =>
      obtain ⟨v, H', os, bare, un, hok', r', q⟩ := h
      cases q
      obtain rfl : u = Value.bool true := r'
      refine ⟨rfl, OldK.of_keep fun b o e => ?_, os, bare⟩
      cases hq : hScr K a (.frz { cls := .type "list", data := .seq vs.toArray } (.lst (ns.map V.int))) b with
      | none => exact un.keep b o e hq (fun z => by cases z) (by simp)
      | some z =>
        obtain ⟨rfl, _, rfl⟩ := hScr_some hq
        rw [ha] at e
        rw [← e]
        exact (hok' b _ (un.frzs b _ _ hq)).1
    | next => exact False.elim h
    | brk => exact False.elim h
    | cont => exact False.elim h
theorem walk_ofG {l : PySem.W.OpenLaw} {n k : Nat} {q : Program} {loose : List Str} {XP : (Str → Option Value) → Heap → Prop} {YP : World → Heap → Prop} {d : DefRec} {K : Params → PySem.W.Frag} {x : Str}
    (hn : l.most = some n) (hn2 : n ≤ sizeLine) (hdf : d.params.defaults = []) (hr : Room k callerA) (hY : ∀ (w : World) (h : Heap), YP w h → (K w.params).In h)
    (F : ∀ (w : World) (mg : Str → Option Value) (fa : Addr) (h : Heap), (K w.params).In h → h.Ns mainGlobals mg → mg d.name = some (.ref fa) →
      ∃ fd : FuncData, (∀ (s : Shared) (u : Value), BindsTo s fd ⟨[u], []⟩ [(x, u)]) ∧ ∀ base : Heap, (K w.params).In base → base.Ns mainGlobals mg → FnG l.prog w (K w.params) mg base k fa fd [x] (spD (K w.params) [.q] .s Fn))
    (hF : ∀ ns : List Int, ns.length ≤ n → ∃ fs, Fn [.list (ns.map .int)] = some (.bool true, fs)) :
    PySem.W.WalkO q loose XP YP l.row.toRowW d [] (fun f vs => PySem.call f vs) :=
  Att.attach_call hn hdf fun w s₀ s₁ mg mb fa o pm cd doc a vs ns G Y ho hd hcd hmg hobj hints hlen hg => by
    obtain ⟨fd, hb, hFn⟩ := F w mg fa _ (hY w _ Y) G.T.g hmg
    exact law_callG (hY w _ Y) G.T.g G.T.b G.T.builtins G.T.nolimit hg hobj hints (Nat.le_trans hlen hn2) hr hFn hb (hF ns hlen)
end
end DL

namespace DL
open PySem L2 PySem.Spec PyProof.Rows

/-! ### isinstance -/
class IsaOk (T : String) (p : outParam (PyData → Bool)) : Prop where
  h : ∀ {P : Program} {w : World} {A : Around} {E : Value → Shared → Prop} {s : Shared} {v : Value} {d : PyData} {as : List Addr} {Q : Value → Shared → Prop}, Reads s.heap v d as → (∀ tk, s.toks ≤ tk → Q (.bool (p d)) { s with toks := tk }) → wpAny (model P w) A (call (.builtin "isinstance") [v, .type T]) Q E s
instance : IsaOk "int" PyData.isInt := ⟨fun r h => PySem.W.isinstance_int_data r h⟩
instance : IsaOk "bool" PyData.isBool := ⟨fun r h => PySem.W.isinstance_bool_data r h⟩
instance : IsaOk "str" PyData.isStr := ⟨fun r h => PySem.W.isinstance_str_data r h⟩
instance : IsaOk "list" PyData.isList := ⟨fun r h => PySem.W.isinstance_list_data r h⟩
instance : IsaOk "tuple" PyData.isTuple := ⟨fun r h => PySem.W.isinstance_tuple_data r h⟩
instance : IsaOk "dict" PyData.isDict := ⟨fun r h => PySem.W.isinstance_dict_data r h⟩
instance : IsaOk "set" PyData.isSet := ⟨fun r h => PySem.W.isinstance_set_data r h⟩
def gIsa (p : PyData → Bool) (d : PyData) : Option PyData := some (.bool (p d))
def rIsaD (K : PySem.W.Frag) (T : String) (p : PyData → Bool) : List V → Hp → VK → Prop := fun vs H Q => ∃ x d, vs = [x, .ty T] ∧ Dq K H x d ∧ Q (.bl (p d)) H
theorem call_isaD {X : Cx} {T : String} {p : PyData → Bool} (h : IsaOk T p) : CallR X (.builtin "isinstance") (rIsaD X.K T p) := by
  intro pins s σ H vs us Q I r hq
  obtain ⟨x, d, rfl, q, k⟩ := hq
  obtain ⟨u1, u2, rfl, r1, r2⟩ := vals2 r
  cases (show u2 = Value.type T from r2)
  obtain ⟨as, rd⟩ := q.reads I r1
  exact h.h rd fun tk _ => ⟨.bl (p d), H, I.tok tk, rfl, k⟩
section
variable {ι : Type} {Xf : ι → Cx} {P : Program} {w : World} {K : PySem.W.Frag} {mg : Str → Option Value} {base : Heap} {n : Nat} [F : Fam Xf P w K mg base n]
variable {m m1 m2 m3 : List Ty} {pos p p2 : Pos} {a b c tg : Expr} {f g h : Ef} {fq : Gq}
include F in
theorem pd_isa (T : String) {pp : PyData → Bool} {x : Str} [ok : IsaOk T pp] (hm : mg "isinstance" = none) (hmT : mg x = none) (hv : bootBuiltins x = some (.type T)) (ha : PD Xf K m a .s f m1) (hg : ∀ i, Gl (Xf i) "isinstance" := by intro _; rfl) (hgT : ∀ i, Gl (Xf i) x := by intro _; rfl) (hn : x ≠ "__name__" := by decide) (hdb : (x == ("__debug__" : Str)) = false := by decide)
    (he : ∀ i, starEach [a, .Name x p2] (Xf i).env = (false, eval a (Xf i).env) :: starEach [.Name x p2] (Xf i).env := by intro _; rfl) (he2 : ∀ i, starEach [.Name x p2] (Xf i).env = (false, eval (.Name x p2) (Xf i).env) :: starEach [] (Xf i).env := by intro _; rfl) (hpl : ∀ i, (backTo pos (starEach [.Name x p2] (Xf i).env)).any (·.1) = false := by intro _; rfl) :
    PD Xf K m (.Call (.Name "isinstance" p) [a, .Name x p2] [] pos) .s (e1 (gIsa pp) f) m1 := by
  obtain ⟨ta, pa, da⟩ := ha.ex
  refine ⟨_, fun i => (by have := pe_callB (pos := pos) (p := p) (call_isaD (X := Xf i) ok) (hg i) (by rw [F.mg_ i]; exact hm) bt_isinstance (pa_cons (pa i) (pa_cons (pe_bltn (v := .ty T) (pos := p2) (hgT i) (by rw [F.mg_ i]; exact hmT) hv rfl hn hdb) pa_nil (he2 i)) (he i)) (by decide) (by decide) (he i) (hpl i); rw [F.kk i] at this; exact this), fun {G H σ e A d e' Q} st hf k => ?_⟩
  unfold e1 at hf
  obtain ⟨⟨d1, e1⟩, hf1, hf⟩ := Option.bind_eq_some_iff.mp hf
  obtain ⟨d3, hf3, hf⟩ := Option.bind_eq_some_iff.mp hf
  cases hf3
  cases hf
  refine da st hf1 fun G1 H1 v1 A1 B1 s1 st1 o1 nd1 => ?_
  cases o1 with
  | s q1 => exact ⟨v1, d1, rfl, q1.mono st1.sub, k G1 H1 _ [] B1 s1 st1 (.s (.bl _)) st1.nd⟩
include F in
theorem pq_isa (T : String) {pp : PyData → Bool} {x : Str} [ok : IsaOk T pp] (hm : mg "isinstance" = none) (hmT : mg x = none) (hv : bootBuiltins x = some (.type T)) (ha : PQ Xf K m a fq) (hg : ∀ i, Gl (Xf i) "isinstance" := by intro _; rfl) (hgT : ∀ i, Gl (Xf i) x := by intro _; rfl) (hn : x ≠ "__name__" := by decide) (hdb : (x == ("__debug__" : Str)) = false := by decide)
    (he : ∀ i, starEach [a, .Name x p2] (Xf i).env = (false, eval a (Xf i).env) :: starEach [.Name x p2] (Xf i).env := by intro _; rfl) (he2 : ∀ i, starEach [.Name x p2] (Xf i).env = (false, eval (.Name x p2) (Xf i).env) :: starEach [] (Xf i).env := by intro _; rfl) (hpl : ∀ i, (backTo pos (starEach [.Name x p2] (Xf i).env)).any (·.1) = false := by intro _; rfl) :
    PQ Xf K m (.Call (.Name "isinstance" p) [a, .Name x p2] [] pos) (q1 (gIsa pp) fq) := by
  obtain ⟨ta, pa, da⟩ := ha.ex
  refine ⟨_, fun i => (by have := pe_callB (pos := pos) (p := p) (call_isaD (X := Xf i) ok) (hg i) (by rw [F.mg_ i]; exact hm) bt_isinstance (pa_cons (pa i) (pa_cons (pe_bltn (v := .ty T) (pos := p2) (hgT i) (by rw [F.mg_ i]; exact hmT) hv rfl hn hdb) pa_nil (he2 i)) (he i)) (by decide) (by decide) (he i) (hpl i); rw [F.kk i] at this; exact this), fun {G H σ e A d Q} st hf k => ?_⟩
  obtain ⟨x1, h1, hf⟩ := Option.bind_eq_some_iff.mp hf
  cases hf
  exact da st h1 fun H1 v s1 q => ⟨v, x1, rfl, q, k H1 _ s1 (.bl _)⟩
include F in
/-- a module's whole number -/
theorem pd_gint {x : Str} {i : Int} {t : Tok} (hm : mg x = some (.int i t)) (hg : ∀ i, Gl (Xf i) x := by intro _; rfl) (hd : (x == ("__debug__" : Str)) = false := by decide) : PD Xf K m (.Name x pos) .s (eC (.int i)) m :=
  ⟨_, fun j => pe_glob (v := .int i) (hg j) (by rw [F.mg_ j]; exact hm) ⟨t, rfl⟩ hd, fun {G H σ e A d e' Q} st hf k => by cases hf; exact ans_s st (.int i) k⟩
include F in
theorem pq_gint {x : Str} {i : Int} {t : Tok} (hm : mg x = some (.int i t)) (hg : ∀ i, Gl (Xf i) x := by intro _; rfl) (hd : (x == ("__debug__" : Str)) = false := by decide) : PQ Xf K m (.Name x pos) (qC (.int i)) :=
  ⟨_, fun j => pe_glob (v := .int i) (hg j) (by rw [F.mg_ j]; exact hm) ⟨t, rfl⟩ hd, fun {G H σ e A d Q} st hf k => by cases hf; exact k H _ (Same.refl H) (.int i)⟩

/-! ### sorted -/
def rSortD (K : PySem.W.Frag) : List V → Hp → VK → Prop := fun vs H Q => ∃ a xs ds G, vs = [.ref a] ∧ Same G H ∧ SqL K H a xs ∧ DqA K G xs ds ∧ sortOk ds = true ∧ xs.length ≤ sizeLine ∧ ∀ p ys, H p = none → DqA K G ys (ds.mergeSort (PySem.W.dataLe false id)) → Q (.ref p) (upd H p (.lst ys))
theorem each_of {X : Cx} {H : Hp} : ∀ {xs : List V} {ds : List PyData} {its : List Value}, DqA X.K H xs ds → Vals xs its → PySem.W.EachIs (fun u d => ∃ v, RelV v u ∧ Dq X.K H v d) its ds
  | [], [], _, _, .nil => .nil
  | x :: xs, d :: ds, _, q, .cons r t => .cons ⟨x, r, q.head⟩ (each_of q.tail t)
  | [], _ :: _, _, q, _ => by have := q.1; simp at this
  | _ :: _, [], _, q, _ => by have := q.1; simp at this
theorem of_each {X : Cx} {H : Hp} {its : List Value} {ds : List PyData} (h : PySem.W.EachIs (fun u d => ∃ v, RelV v u ∧ Dq X.K H v d) its ds) : ∃ xs, Vals xs its ∧ DqA X.K H xs ds := by
  induction h with
  | nil => exact ⟨[], .nil, DqA.nil⟩
  | cons h _ ih =>
    obtain ⟨v, r, q⟩ := h
    obtain ⟨xs, r2, q2⟩ := ih
    exact ⟨v :: xs, .cons r r2, DqA.cons q q2⟩
theorem depth_mem {x : PyData} {xs : List PyData} (h : x ∈ xs) : x.depth ≤ PyData.depthAll xs := depthAll_mem h
theorem call_sortD {X : Cx} {n : Nat} (hr : Room n X.A) : CallR X (.builtin "sorted") (rSortD X.K) := by
  intro pins s σ H vs us Q I r hq
  obtain ⟨a, xs, ds, G, rfl, sg, hs, q, ok, hz, k⟩ := hq
  rw [Vals.ref1 r]
  obtain ⟨its, rv, hL, _⟩ := I.list hs
  unfold sortOk at ok
  simp only [Bool.and_eq_true, List.all_eq_true, decide_eq_true_eq, Bool.or_eq_true] at ok
  have er : PySem.W.EachIs (fun v b => ∃ as, Reads s.heap v (id b) as) its ds := (each_of q rv).mono fun u d ⟨v, r, q⟩ => (q.mono sg).reads I r
  refine PySem.W.sorted_data (enc := id) hL.isList (each_of q rv) er (fun x hx y hy => ?_) ?_ (by rw [← q.1]; exact hz) (fun b hb => ?_) fun out hl eo => ?_
  · rw [List.map_id] at hx hy
    exact ok.1.1 x hx y hy
  · rw [List.map_id]
    rcases ok.1.2 with h | h
    · refine .inl fun d hd => ?_
      have := h d hd
      split at this
      · exact ⟨_, _, rfl⟩
      · cases this
    · refine .inr fun d hd => ⟨fun e => ?_, fun xs e => ?_⟩
      · have := h d hd; subst e; cases this
      · have := h d hd; subst e; cases this
  · have := hr.un
    have h1 : (id b : PyData).depth ≤ PyData.depthAll ds := depth_mem hb
    have h2 := ok.2
    omega
  · obtain ⟨ys, r2, q2⟩ := of_each eo
    obtain ⟨ep, he'⟩ := sortedAll_at s.heap its out.toArray
    have hlen : ys.length ≤ sizeLine := by
      have := q.1
      rw [r2.length, hl]; omega
    exact ⟨.ref _, upd H (s.heap.objs.size + 1) (.lst ys), I.laid (t' := s.toks) (fun _ _ => sortedAll_old) (Nat.le_succ _) ⟨hlen, out, ep, r2, by simpa using he'⟩, rfl, k _ ys (I.hok.fresh (Nat.le_succ _)) q2⟩
include F in
theorem clSorted : Cl1 Xf K (.builtin "sorted") (.l .s) gSorted := by
  refine ⟨rSortD K, fun i => by have := call_sortD (X := Xf i) (F.room i); rw [F.kk i] at this; exact this, fun {m G H σ e A x dx d Q} st hx ee k => ?_⟩
  unfold gSorted at ee
  split at ee
  · obtain ⟨h1, rfl⟩ := ite_some ee
    obtain ⟨a, xs, rfl, r1, z1, q1⟩ := dq_lst hx
    refine ⟨a, xs, _, G, rfl, st.sub, .inl (same_rd st.sub r1), q1, h1, z1, fun p ys hp q => ?_⟩
    have hy : ys.length ≤ sizeLine := by rw [q.1, List.length_mergeSort, ← q1.1]; exact z1
    exact ans_lst st q hy k p hp
  · cases ee
end
end DL

namespace DL
open PySem L2 PySem.Spec

section
variable {K : PySem.W.Frag} {M : Mk} {G H G1 H1 : Hp} {m m1 m2 mn : List Ty} {σ σ1 : St} {e : En} {A A1 : List Addr} {D : Ends} {e' : En} {o : Out} {t u : TS} {f g : Sf} {ef : Ef} {bf : Bf} {lf : Lf}
/-- a, b = x, y; what is owned is moved -/
theorem DS.parT {ta : TA} {i j : Nat} {t1 t2 : Ty} (ha : DA K m ta [t1, t2] lf m1) (hi : i < m1.length) (hj : j < m1.length) (pi : i ∉ M.po) (pj : j ∉ M.po) : DS K M m (tPar i j ta) (sPar i j lf) ((m1.set i t1).set j t2) := by
  intro G H σ e A o e' D st hf k
  obtain ⟨⟨ds, e1⟩, hf1, hf⟩ := Option.bind_eq_some_iff.mp hf
  refine ha st hf1 fun G1 H1 vs Av A1 s1 st1 o1 nd1 => ?_
  match vs, ds, hf, o1 with
  | [v, w], [x, y], hf, o1 =>
    cases hf
    cases o1 with
    | @cons _ _ _ _ _ _ A2 A3 p1 p2 =>
      cases p2 with
      | @cons _ _ _ _ _ _ A4 A5 p3 p4 =>
        cases p4
        rw [List.append_nil] at nd1 s1
        have n1 := List.nodup_append.mp nd1
        have n2 := List.nodup_append.mp n1.1
        obtain ⟨B2, st2, hB2⟩ := stt_set st1 hi p1 (List.nodup_append.mpr ⟨n2.1, n1.2.1, fun a ha b hb z => n1.2.2 a (List.mem_append_left _ ha) b hb z⟩)
        obtain ⟨B3, st3, hB3⟩ := stt_set st2 (by rw [List.length_set]; exact hj) p3 (List.nodup_append.mpr ⟨n2.2.1, st2.nd, fun a ha b hb z => by
          rcases List.mem_append.mp (hB2 b hb) with q | q
          · exact n2.2.2 b q a ha z.symm
          · exact n1.2.2 a (List.mem_append_right _ ha) b q z⟩)
        refine ⟨v, w, rfl, k G1 H1 _ B3 (s1.less fun a h => ?_) st3 ((Pin.set pi).trans (Pin.set pj))⟩
        rcases List.mem_append.mp (hB3 a h) with q | q
        · exact List.mem_append_left _ (List.mem_append_right _ q)
        · rcases List.mem_append.mp (hB2 a q) with q | q
          · exact List.mem_append_left _ (List.mem_append_left _ q)
          · exact List.mem_append_right _ q
  | [_], _, _, o1 => cases o1 with | cons _ p => cases p
  | [], _, _, o1 => cases o1
  | _ :: _ :: _ :: _, _, _, o1 => cases o1 with | cons _ p => cases p with | cons _ p => cases p
/-- an item of an owned variable, any index -/
def eItmG (j : Nat) (f : Ef) : Ef := fun e => (f e).bind fun p => (itemD (p.2.getD j .none) p.1).map fun x => (x, p.2)
theorem DE.itmG {ti : TE} {j : Nat} {t0 : Ty} (h0 : m[j]? = some t0) (hl0 : lstTy t0 = true) (hi : DE K m ti .s ef m1) (hm : m1[j]? = some (.l .s)) : DE K m (tOp (rIxL K) (tVar j) ti) .s (eItmG j ef) m1 := by
  intro G H σ e A d e' Q st hf k
  obtain ⟨⟨di, e1⟩, hf1, hf⟩ := Option.bind_eq_some_iff.mp hf
  obtain ⟨x, hx, hf⟩ := Option.map_eq_some_iff.mp hf
  cases hf
  obtain ⟨d0, v0, B0, C0, g1, g2, g3, _, _⟩ := ownA_take st.own h0
  have hv0 : ∃ w, v0 = some w := by cases g3 with | u => cases hl0 | s => cases hl0 | q => cases hl0 | l => exact ⟨_, rfl⟩ | r => exact ⟨_, rfl⟩
  obtain ⟨w, rfl⟩ := hv0
  refine ⟨w, g2, hi st hf1 fun G1 H1 y A1 B1 s1 st1 o1 nd1 => ?_⟩
  obtain ⟨dj, vj, Aj, A0, h1, h2, h3, h4, hp⟩ := ownA_take st1.own hm
  rw [g2] at h2
  obtain rfl := Option.some.inj h2
  cases o1 with
  | s q1 =>
    cases h3 with
    | @l _ a vs ds Ai ga ha hz oi =>
      have ed : e1.getD j .none = .list ds := by rw [List.getD_eq_getElem?_getD, h1]; rfl
      rw [ed] at hx
      cases di with
      | int i =>
        obtain rfl := dq_int q1
        obtain ⟨jj, hj, hx⟩ := Option.bind_eq_some_iff.mp (show (ixN ds.length i).bind _ = _ from hx)
        obtain ⟨rfl, qi⟩ := of_ownA oi
        obtain ⟨v, hv, qv⟩ := qi.get hx
        exact ⟨a, vs, i, v, rfl, rfl, .inl (.inl ha), by unfold atI; rw [qi.1, hj]; exact hv, k G1 H1 v [] B1 s1 st1 (.s qv) st1.nd⟩
      | _ => cases hx
end
section
variable {ι : Type} {Xf : ι → Cx} {P : Program} {w : World} {K : PySem.W.Frag} {mg : Str → Option Value} {base : Heap} {n : Nat} [F : Fam Xf P w K mg base n]
variable {M : Mk} {m m1 m2 mn ml : List Ty} {pos p p2 spos xp : Pos} {a b c v tg iter : Expr} {st : Stmt} {rest body orelse : List Stmt} {f g : Sf} {ef eg : Ef} {bf : Bf} {lf : Lf} {gf : Gf} {sl : List Nat} {ty t1 t2 : Ty}
include F in
theorem ds_parT (i j : Nat) {L : List (Option Nat)} {x y : Str} {px py pt pt2 : Pos} {kt k2} (ha : PAL Xf K m [a, b] [t1, t2] L lf m1) (hi : i < m1.length := by decide) (hj : j < m1.length := by decide) (pi : i ∉ M.po := by decide) (pj : j ∉ M.po := by decide) (hij : i ≠ j := by decide)
    (ni : ∀ z, (Xf z).N[i]? = some x := by intro _; rfl) (nj : ∀ z, (Xf z).N[j]? = some y := by intro _; rfl) (hx : ∀ z, (Xf z).env.scope.names.lookup x = some .local := by intro _; rfl) (hy : ∀ z, (Xf z).env.scope.names.lookup y = some .local := by intro _; rfl)
    (hw : ∀ z, swappedStores [.Tuple [.Name x px, .Name y py] kt pt] (.Tuple [a, b] k2 pt2) (Xf z).env = pure (some [x, y]) := by intro _; rfl) (hs : ∀ z, swapsWithSole [.Tuple [.Name x px, .Name y py] kt pt] (.Tuple [a, b] k2 pt2) pos.line (Xf z).env = pure false := by intro _; rfl) :
    PSd Xf K M m (.Assign [.Tuple [.Name x px, .Name y py] kt pt] (.Tuple [a, b] k2 pt2) pos) (sPar i j lf) ((m1.set i t1).set j t2) := by
  obtain ⟨t, p, d⟩ := ha.ex
  exact ⟨_, fun z => ps_par (F.calm z) (F.nd z) (ni z) (nj z) hij (hx z) (hy z) (p z) (hw z) (hs z), DS.parT (fun st hf k => d st hf fun G' H' vs Av A' s st' o nd _ => k G' H' vs Av A' s st' o nd) hi hj pi pj⟩
include F in
theorem pd_itmG (j : Nat) {t0 : Ty} {x : Str} (hi : PD Xf K m b .s ef m1) (h0 : m[j]? = some t0 := by rfl) (hl0 : lstTy t0 = true := by rfl) (hm : m1[j]? = some (.l .s) := by rfl) (hN : ∀ i, (Xf i).N[j]? = some x := by intro _; rfl)
    (hv : ∀ i, Vis (Xf i).env.scope x := by first | (intro _; exact Or.inl rfl) | (intro _; exact Or.inr (Or.inl rfl)) | (intro _; exact Or.inr (Or.inr rfl))) (hd : (x == ("__debug__" : Str)) = false := by decide) (hcd : (x == ("__classdict__" : Str)) = false := by decide) (hs : PlainIx b := by exact fun _ _ => rfl) :
    PD Xf K m (.Subscript (.Name x xp) b pos) .s (eItmG j ef) m1 := by
  obtain ⟨tb, pb, db⟩ := hi.ex
  exact ⟨_, fun i => by have := pe_ix (ix_list (X := Xf i)) (pe_var (pos := xp) (hN i) (hv i) hd hcd) (pb i) hs (pos := pos); rw [F.kk i] at this; exact this, DE.itmG h0 hl0 db hm⟩

/-! ### list(range(..)), tuple(range(..)) -/
def eRg1 (f : Ef) : Lf := fun e => (f e).bind fun p => (rng1 p.1).bind fun ds => some (ds, p.2)
structure PRd {ι : Type} (Xf : ι → Cx) (K : PySem.W.Frag) (m : List Ty) (e : Expr) (f : Lf) (m' : List Ty) : Prop where
  ex : ∃ te : St → Hp → (Int → Int → Hp → Prop) → Prop, (∀ i, PRg (Xf i) e te) ∧ ∀ {G H : Hp} {σ : St} {e : En} {A : List Addr} {ds : List PyData} {e' : En} {Q : Int → Int → Hp → Prop}, Stt K m G H σ e A → f e = some (ds, e') →
    (∀ (G' H' : Hp) (A' : List Addr) (a b : Int), Step A G H A' G' H' → Stt K m' G' H' σ e' A' → RgOk a b → ds = rngD a (b - a).toNat → Q a b H') → te σ H Q
theorem sz24 {n : Nat} (h : n ≤ sizeLine) : n ≤ 2 ^ 24 := by rw [sizeLine_eq] at h; omega
include F in
theorem pr_1 (hm : mg "range" = none) (ha : PD Xf K m a .s ef m1) (hg : ∀ i, Gl (Xf i) "range" := by intro _; rfl) (na : ∀ i, starEach [a] (Xf i).env = (false, eval a (Xf i).env) :: starEach [] (Xf i).env := by intro _; rfl) : PRd Xf K m (.Call (.Name "range" p) [a] [] pos) (iR1 ef) m1 := by
  obtain ⟨ta, pa, da⟩ := ha.ex
  refine ⟨_, fun i => prg_1 (hg i) (by rw [F.mg_ i]; exact hm) (pa i) (na i), fun {G H σ e A ds e' Q} st hf k => ?_⟩
  obtain ⟨⟨d1, e1⟩, hf1, hf⟩ := Option.bind_eq_some_iff.mp hf
  obtain ⟨ds1, hf2, hf⟩ := Option.bind_eq_some_iff.mp hf
  cases hf
  refine da st hf1 fun G1 H1 v1 A1 B1 s1 st1 o1 nd1 => ?_
  cases o1 with
  | s q1 =>
    cases d1 with
    | int j =>
      obtain ⟨hz, rfl⟩ := ite_some hf2
      replace hz := And.intro hz.2.1 (And.intro hz.2.2 hz.1)
      obtain rfl := dq_int q1
      exact ⟨j, rfl, k G1 H1 B1 0 j s1 st1 ⟨by omega, by omega, hz.1, hz.2.1, by rw [Int.sub_zero]; exact sz24 hz.2.2⟩ (by rw [Int.sub_zero])⟩
    | _ => cases hf2
include F in
theorem pr_2 (hm : mg "range" = none) (ha : PD Xf K m a .s ef m1) (hb : PD Xf K m1 b .s eg m2) (hg : ∀ i, Gl (Xf i) "range" := by intro _; rfl) (na : ∀ i, starEach [a, b] (Xf i).env = (false, eval a (Xf i).env) :: starEach [b] (Xf i).env := by intro _; rfl) (nb : ∀ i, starEach [b] (Xf i).env = (false, eval b (Xf i).env) :: starEach [] (Xf i).env := by intro _; rfl) (hp : ∀ i, (backTo pos (starEach [b] (Xf i).env)).any (·.1) = false := by intro _; rfl) :
    PRd Xf K m (.Call (.Name "range" p) [a, b] [] pos) (iR2 ef eg) m2 := by
  obtain ⟨ta, pa, da⟩ := ha.ex
  obtain ⟨tb, pb, db⟩ := hb.ex
  refine ⟨_, fun i => prg_2 (hg i) (by rw [F.mg_ i]; exact hm) (pa i) (pb i) (na i) (nb i) (hp i), fun {G H σ e A ds e' Q} st hf k => ?_⟩
  unfold iR2 at hf
  obtain ⟨⟨d1, e1⟩, hf1, hf⟩ := Option.bind_eq_some_iff.mp hf
  obtain ⟨⟨d2, e2⟩, hf2, hf⟩ := Option.bind_eq_some_iff.mp hf
  obtain ⟨ds1, hf3, hf⟩ := Option.bind_eq_some_iff.mp hf
  cases hf
  refine da st hf1 fun G1 H1 v1 A1 B1 s1 st1 o1 nd1 => ?_
  cases o1 with
  | s q1 =>
    refine db st1 hf2 fun G2 H2 v2 A2 B2 s2 st2 o2 nd2 => ?_
    cases o2 with
    | s q2 =>
      have hf3 : rng2 d1 d2 = some ds := hf3
      unfold rng2 at hf3
      split at hf3
      · obtain ⟨hz, rfl⟩ := ite_some hf3
        replace hz := And.intro hz.2.1 (And.intro hz.2.2.1 (And.intro hz.2.2.2.1 (And.intro hz.2.2.2.2 hz.1)))
        obtain rfl := dq_int q1
        obtain rfl := dq_int q2
        exact ⟨_, _, rfl, rfl, k G2 H2 B2 _ _ (s1.seq0 s2) st2 ⟨hz.1, hz.2.1, hz.2.2.1, hz.2.2.2.1, sz24 hz.2.2.2.2⟩ rfl⟩
      · cases hf3
theorem dqA_rg {G : Hp} {a b : Int} : DqA K G (rgV a b) (rngD a (b - a).toNat) := by
  unfold rgV rngD
  refine ⟨by simp, fun i v d h1 h2 => ?_⟩
  by_cases h : i < (b - a).toNat
  · rw [List.getElem?_map, List.getElem?_range h] at h1 h2
    cases h1; cases h2; exact .int _
  · rw [List.getElem?_map, List.getElem?_eq_none (by simp; omega)] at h1; cases h1
def eLsR (f : Lf) : Ef := fun e => (f e).map fun p => (.list p.1, p.2)
def eTpR (f : Lf) : Ef := fun e => (f e).map fun p => (.tuple p.1, p.2)
include F in
theorem pd_lsR (hm : mg "list" = none) (he : PRd Xf K m a lf m1) (hg : ∀ i, Gl (Xf i) "list" := by intro _; rfl) (na : ∀ i, starEach [a] (Xf i).env = (false, eval a (Xf i).env) :: starEach [] (Xf i).env := by intro _; rfl) : PD Xf K m (.Call (.Name "list" p) [a] [] pos) (.l .s) (eLsR lf) m1 := by
  obtain ⟨te, pe, de⟩ := he.ex
  refine ⟨_, fun i => pe_listRg (F.calm i) (hg i) (by rw [F.mg_ i]; exact hm) (pe i) (na i), fun {G H σ e A d e' Q} st hf k => ?_⟩
  obtain ⟨⟨ds, e1⟩, hf1, hf⟩ := Option.map_eq_some_iff.mp hf
  cases hf
  refine de st hf1 fun G1 H1 A1 x y s1 st1 ok hd => ⟨ok, ?_⟩
  subst hd
  exact ans_lst st1 (dqA_rg (K := K)) (by rw [rgV_length]; have := ok.2.2.2.2; rw [sizeLine_eq]; omega) fun G2 H2 v Av A2 s2 => k G2 H2 v Av A2 (s1.seq0 s2)
include F in
theorem pd_tpR (hm : mg "tuple" = none) (he : PRd Xf K m a lf m1) (hg : ∀ i, Gl (Xf i) "tuple" := by intro _; rfl) (na : ∀ i, starEach [a] (Xf i).env = (false, eval a (Xf i).env) :: starEach [] (Xf i).env := by intro _; rfl) : PD Xf K m (.Call (.Name "tuple" p) [a] [] pos) .s (eTpR lf) m1 := by
  obtain ⟨te, pe, de⟩ := he.ex
  refine ⟨_, fun i => pe_tupRg (F.calm i) (hg i) (by rw [F.mg_ i]; exact hm) (pe i) (na i), fun {G H σ e A d e' Q} st hf k => ?_⟩
  obtain ⟨⟨ds, e1⟩, hf1, hf⟩ := Option.map_eq_some_iff.mp hf
  cases hf
  refine de st hf1 fun G1 H1 A1 x y s1 st1 ok hd => ⟨ok, ?_⟩
  subst hd
  exact ans_tup st1 (dqA_rg (K := K)) (by rw [rgV_length]; have := ok.2.2.2.2; rw [sizeLine_eq]; omega) fun G2 H2 v Av A2 s2 => k G2 H2 v Av A2 (s1.seq0 s2)
/-- code that is not come to -/
def sNever : Sf := fun _ => none
theorem ds_never : PSd Xf K M m st sNever mn := ⟨tNever, fun _ => ps_never, fun st hf k => by cases hf⟩
/-- x op= e on numbers -/
def sAug (j : Nat) (gg : PyData → PyData → Option PyData) (f : Ef) : Sf := fun e => (f e).bind fun p => (gg (p.2.getD j .none) p.1).map fun d => (.nx, p.2.set j d)
end
/-! ### repr -/
def rRepr (K : PySem.W.Frag) : List V → Hp → VK → Prop := fun vs H Q => ∃ x d, vs = [x] ∧ Dq K H x d ∧ gRepr d = some (.str d.shown) ∧ Q (.str d.shown) H
theorem call_reprD {X : Cx} {n : Nat} (hr : Room n X.A) (hg : X.A.guards = some []) : CallR X (.builtin "repr") (rRepr X.K) := by
  intro pins s σ H vs us Q I r h
  obtain ⟨x, d, rfl, q, hd, k⟩ := h
  obtain ⟨u, rfl, rx⟩ := vals1 r
  obtain ⟨as, rd⟩ := q.reads I rx
  obtain ⟨h1, h2, h3, h4⟩ := (ite_some hd).1
  have un := hr.un
  have fin : ∀ (h' : Heap) (t tk : Nat), (∀ b o, s.heap.get? b = some o → h'.get? b = some o) → EP X pins σ Q (.str d.shown t) { s with heap := h', toks := tk } := fun h' t tk hk => ⟨.str d.shown, H, I.kept (t' := tk) hk, ⟨t, rfl⟩, k⟩
  cases q with
  | non => cases rx; exact PySem.P.repr_of_none (fin s.heap s.toks (s.toks + 1) fun _ _ e => e)
  | bl b => cases rx; exact PySem.P.repr_of_bool (fin s.heap s.toks (s.toks + 1) fun _ _ e => e)
  | int i =>
    obtain ⟨t, rfl⟩ := rx
    exact PySem.P.repr_of_int (by simpa [PyData.showable] using h1) (fin s.heap s.toks (s.toks + 1) fun _ _ e => e)
  | str z hz =>
    obtain ⟨t, rfl⟩ := rx
    exact PySem.P.repr_of_str (fin s.heap s.toks (s.toks + 1) fun _ _ e => e) h4
  | lst _ _ _ _ =>
    cases rx
    exact PySem.repr_of_reads' rd h1 (PySem.PyData.noDict_hsm h2) hg (by omega) (fun _ _ e => e) (fun h' t tk hk => fin h' t tk hk) h4
  | tup _ _ _ _ =>
    cases rx
    exact PySem.repr_of_reads' rd h1 (PySem.PyData.noDict_hsm h2) hg (by omega) (fun _ _ e => e) (fun h' t tk hk => fin h' t tk hk) h4
section
variable {ι : Type} {Xf : ι → Cx} {P : Program} {w : World} {K : PySem.W.Frag} {mg : Str → Option Value} {base : Heap} {n : Nat} [F : Fam Xf P w K mg base n] [FG : FamG Xf]
include F FG in
theorem clRepr : Cl1 Xf K (.builtin "repr") .s gRepr := by
  refine ⟨rRepr K, fun i => by have := call_reprD (X := Xf i) (F.room i) (FG.gd i); rw [F.kk i] at this; exact this, fun {m G H σ e A x dx d Q} st hx ee k => ?_⟩
  have ee' := ee
  obtain ⟨hc, rfl⟩ := ite_some ee
  exact ⟨x, dx, rfl, hx.mono st.sub, ee', ans_s st (.str _ hc.2.2.2) k⟩
end
end DL

namespace DL
open PySem L2 PySem.Spec

/-! ### two variables lent -/
section
variable {K : PySem.W.Frag} {G H : Hp}
theorem lend_in {tys m : List Ty} {ds e : List PyData} {vs : List V} {σ : St} {A1 B1 : List Addr} {k j : Nat} {t : Ty} {v0 : V} (oA : OwnA K G H tys ds (vs.map some) A1) (oB : OwnA K G H m e σ B1) (hm : m[j]? = some t) (hu : tys[k]? = some .u) (hv : vs[k]? = some v0) (hs : σ[j]? = some (some v0)) :
    ∃ A2 B2, OwnA K G H (tys.set k t) (ds.set k (e.getD j .none)) (vs.map some) A2 ∧ OwnA K G H (m.set j .u) e σ B2 ∧ (A1 ++ B1).Perm (A2 ++ B2) := by
  obtain ⟨dj, vj, Aj, B0, h1, h2, h3, h4, hp⟩ := ownA_take oB hm
  rw [hs] at h2
  obtain rfl := Option.some.inj h2
  obtain ⟨A2, o2, p2⟩ := ownA_put oA hu h3
  have hvs : (vs.map some).set k (some v0) = vs.map some := set_id (by rw [List.getElem?_map, hv]; rfl)
  rw [hvs] at o2
  have ed : e.getD j .none = dj := by rw [List.getD_eq_getElem?_getD, h1]; rfl
  rw [ed]
  refine ⟨A2, B0, o2, h4, List.perm_iff_count.mpr fun z => ?_⟩
  have a := List.perm_iff_count.mp hp z
  have b := List.perm_iff_count.mp p2 z
  simp only [List.count_append] at a b ⊢
  omega
theorem lend_out {tys m : List Ty} {fs e : List PyData} {vs : List V} {σ : St} {A3 B3 : List Addr} {k j : Nat} {t : Ty} {v0 : V} (oA : OwnA K G H tys fs (vs.map some) A3) (oB : OwnA K G H m e σ B3) (hk : tys[k]? = some t) (hu : m[j]? = some .u) (hv : vs[k]? = some v0) (hs : σ[j]? = some (some v0)) :
    ∃ A4 B4, OwnA K G H (tys.set k .u) fs (vs.map some) A4 ∧ OwnA K G H (m.set j t) (e.set j (fs.getD k .none)) σ B4 ∧ (A3 ++ B3).Perm (A4 ++ B4) := by
  obtain ⟨df, vf, Af, A4, g1, g2, g3, g4, gp⟩ := ownA_take oA hk
  have hvf : vf = some v0 := by rw [List.getElem?_map, hv] at g2; exact (Option.some.inj g2).symm
  subst hvf
  obtain ⟨B2, o4, p4⟩ := ownA_put oB hu g3
  rw [set_id (l := σ) hs] at o4
  have ef : fs.getD k .none = df := by rw [List.getD_eq_getElem?_getD, g1]; rfl
  rw [ef]
  refine ⟨A4, B2, g4, o4, List.perm_iff_count.mpr fun z => ?_⟩
  have a := List.perm_iff_count.mp gp z
  have b := List.perm_iff_count.mp p4 z
  simp only [List.count_append] at a b ⊢
  omega
end
def eCallL2 (Fn : DFn) (k1 j1 k2 j2 : Nat) (r : Lf) : Ef := fun e => (r e).bind fun p => (Fn ((p.1.set k1 (p.2.getD j1 .none)).set k2 (p.2.getD j2 .none))).bind fun q => some (q.1, (p.2.set j2 (q.2.getD k2 .none)).set j1 (q.2.getD k1 .none))
section
variable {ι : Type} {Xf : ι → Cx} {P : Program} {w : World} {K : PySem.W.Frag} {mg : Str → Option Value} {base : Heap} {n : Nat} [F : Fam Xf P w K mg base n] [FG : FamG Xf]
variable {m m1 m2 m3 : List Ty} {pos p p2 : Pos} {a b c : Expr} {es : List Expr} {f g h : Ef} {fr : Lf} {ty : Ty} {tys : List Ty} {L : List (Option Nat)}
include F FG in
theorem pd_callL2 {k k1 j1 k2 j2 : Nat} {x : Str} {rty t1 t2 : Ty} {Fn : DFn} (c : CalG P w K mg base k x tys rty Fn) {tys' : List Ty} (ha : PAL Xf K m (a :: es) tys' L fr m1) (hm1 : m1[j1]? = some t1 := by rfl) (hm2 : m1[j2]? = some t2 := by rfl) (hj : j1 ≠ j2 := by decide) (hkk : k1 ≠ k2 := by decide) (hL1 : L[k1]? = some (some j1) := by rfl) (hL2 : L[k2]? = some (some j2) := by rfl) (hu1 : tys'[k1]? = some .u := by rfl) (hu2 : tys'[k2]? = some .u := by rfl) (ht : (tys'.set k1 t1).set k2 t2 = tys := by rfl)
    (hk : k ≤ n := by decide) (hg : ∀ i, Gl (Xf i) x := by intro _; rfl)
    (hdb : (x == ("__debug__" : Str)) = false := by decide) (he : ∀ i, starEach (a :: es) (Xf i).env = (false, eval a (Xf i).env) :: starEach es (Xf i).env := by intro _; rfl) (hpl : ∀ i, (backTo pos (starEach es (Xf i).env)).any (·.1) = false := by intro _; rfl) :
    PD Xf K m (.Call (.Name x p) (a :: es) [] pos) rty (eCallL2 Fn k1 j1 k2 j2 fr) m1 := by
  obtain ⟨ta, pa, da⟩ := ha.ex
  refine ⟨_, fun i => pe_callG c hk i (hg i) (pa i) hdb (he i) (hpl i), fun {G H σ e A d e' Q} st hf k' => ?_⟩
  unfold eCallL2 at hf
  obtain ⟨⟨ds, e1⟩, hf1, hf⟩ := Option.bind_eq_some_iff.mp hf
  obtain ⟨⟨d1, fs⟩, hf2, hf⟩ := Option.bind_eq_some_iff.mp hf
  cases hf
  refine da st hf1 fun G1 H1 vs A1 B1 s1 st1 o1 nd1 lk => ?_
  obtain ⟨v1, hv1, hs1⟩ := lk k1 j1 hL1
  obtain ⟨v2, hv2, hs2⟩ := lk k2 j2 hL2
  obtain ⟨A2, B2, oA2, oB2, p2⟩ := lend_in o1 st1.own hm1 hu1 hv1 hs1
  have hm2' : (m1.set j1 .u)[j2]? = some t2 := by rw [List.getElem?_set_ne hj]; exact hm2
  have hu2' : (tys'.set k1 t1)[k2]? = some .u := by rw [List.getElem?_set_ne hkk]; exact hu2
  obtain ⟨A3, B3, oA3, oB3, p3⟩ := lend_in oA2 oB2 hm2' hu2' hv2 hs2
  rw [ht] at oA3
  have pall : (A1 ++ B1).Perm (B3 ++ A3) := (p2.trans p3).trans List.perm_append_comm
  have nd3 : (B3 ++ A3).Nodup := pall.nodup_iff.mp nd1
  have n3 := List.nodup_append.mp nd3
  refine ⟨_, _, fs, G1, A3, hf2, oA3, n3.2.1, st1.sub, fun G2 H2 v Av A4 s2 o4 ov nd4 sub2 => ?_⟩
  have s1' : Step A G H (B3 ++ A3) G1 H1 := ⟨s1.sg, s1.fr, fun a ha => s1.own a (pall.mem_iff.mpr ha), s1.gnew⟩
  obtain ⟨s3, nd5, hg', hh'⟩ := s1'.seq (ownA_at oB3) nd3 s2 nd4
  have oB4 := ownA_fr oB3 s2.sg hg' hh'
  have hk2 : tys[k2]? = some t2 := by
    rw [← ht, List.getElem?_set_self]
    have := (List.getElem?_eq_some_iff.mp hu2').1
    exact this
  have hk1 : tys[k1]? = some t1 := by
    rw [← ht, List.getElem?_set_ne (Ne.symm hkk), List.getElem?_set_self]
    exact (List.getElem?_eq_some_iff.mp hu1).1
  have hu3 : ((m1.set j1 .u).set j2 .u)[j2]? = some .u := by rw [List.getElem?_set_self (List.getElem?_eq_some_iff.mp hm2').1]
  obtain ⟨A5, B5, oA5, oB5, p5⟩ := lend_out o4 oB4 hk2 hu3 hv2 hs2
  rw [List.set_set, set_id hm2'] at oB5
  have hk1' : (tys.set k2 .u)[k1]? = some t1 := by rw [List.getElem?_set_ne (Ne.symm hkk)]; exact hk1
  have hu4 : (m1.set j1 .u)[j1]? = some .u := by rw [List.getElem?_set_self (List.getElem?_eq_some_iff.mp hm1).1]
  obtain ⟨A6, B6, oA6, oB6, p6⟩ := lend_out oA5 oB5 hk1' hu4 hv1 hs1
  rw [List.set_set, set_id hm1] at oB6
  have n5 := List.nodup_append.mp nd5
  have n6 := List.nodup_append.mp n5.2.1
  have pB : (B3 ++ A4).Perm (A6 ++ B6) := List.perm_append_comm.trans (p5.trans p6)
  have ndB : (B3 ++ A4).Nodup := List.nodup_append.mpr ⟨n5.1, n6.2.1, fun a ha b hb z => n5.2.2 a ha b (List.mem_append_right _ hb) z⟩
  have nB6 := (List.nodup_append.mp (pB.nodup_iff.mp ndB)).2.1
  have in6 : ∀ a ∈ B6, a ∈ B3 ∨ a ∈ A4 := fun a ha => List.mem_append.mp (pB.mem_iff.mpr (List.mem_append_right _ ha))
  refine k' G2 H2 v Av B6 (s3.less fun a ha => ?_) ⟨oB6, nB6, sub2⟩ ov (List.nodup_append.mpr ⟨n6.1, nB6, fun a ha b hb z => ?_⟩)
  · rcases List.mem_append.mp ha with z | z
    · exact List.mem_append_right _ (List.mem_append_left _ z)
    · rcases in6 a z with q | q
      · exact List.mem_append_left _ q
      · exact List.mem_append_right _ (List.mem_append_right _ q)
  · subst z
    rcases in6 a hb with q | q
    · exact n5.2.2 a q a (List.mem_append_left _ ha) rfl
    · exact n6.2.2 a ha a q rfl
end
end DL

namespace DL
open PySem L2 PySem.Spec

/-! ### x[::-1] -/
section
open PyProof.Rows PySem.SeqAt PySem.MeetsSeq PySem.MeetsSeq2 PySem.MeetsSeq3 HT
variable {prog : Program} {w : World} {A : Around} {E : Value → Shared → Prop} {s : Shared}
theorem back_parts {sl : Addr} {n : Nat} {u : Tok} {Q : Int × Int × Nat → Shared → Prop} (hs : s.heap.IsSliceOf sl .none .none (.int (-1) u)) (h : Q ((n : Int) - 1, -1, n) s) : wpAny (model prog w) A (Builtin.Slice.sliceApplied (.ref sl) (pure (n : Int))) Q E s := by
  obtain ⟨ob, ho, _, hd⟩ := id hs
  unfold Builtin.Slice.sliceApplied Builtin.Slice.sliceFields
  refine wpAny_bind (wpAny_bind (wpAny_field ho hd (x := .none) rfl (wpAny_bind (wpAny_field ho hd (x := .none) rfl (wpAny_bind (wpAny_field ho hd (x := .int (-1) u) rfl (wpAny_pure ?_)))))))
  refine wpAny_bind (slicePart_int ?_)
  show wpAny _ _ (if ((-1 : Int) == 0) = true then _ else _) _ _ s
  rw [if_neg (by decide)]
  refine wpAny_bind (slicePart_none (wpAny_bind (slicePart_none (wpAny_bind (wpAny_pure ?_)))))
  have e : Builtin.Slice.slicePlaces ((n : Int) - 1) (-1) (-1) = n := by
    unfold Builtin.Slice.slicePlaces
    rw [if_neg (by decide)]
    split
    · rw [show (-(-1 : Int)) = 1 by decide, Int.ediv_one]; omega
    · omega
  show wpAny _ _ (pure ((n : Int) - 1, (-1 : Int), Builtin.Slice.slicePlaces ((n : Int) - 1) (-1) (-1))) _ _ s
  rw [e]
  exact wpAny_pure h
theorem fm_some {α β : Type} {f : α → Option β} {g : α → β} : ∀ {l : List α}, (∀ k ∈ l, f k = some (g k)) → l.filterMap f = l.map g
  | [], _ => rfl
  | k :: l, h => by rw [List.filterMap_cons_some (h k (List.mem_cons_self ..)), fm_some fun x hx => h x (List.mem_cons_of_mem _ hx), List.map_cons]
theorem back_pick (xs : Array Value) : ((List.range xs.size).filterMap fun (k : Nat) => xs[(((xs.size : Int) - 1) + (k : Int) * (-1)).toNat]?).toArray = xs.toList.reverse.toArray := by
  have e : (List.range xs.size).filterMap (fun (k : Nat) => xs[(((xs.size : Int) - 1) + (k : Int) * (-1)).toNat]?) = (List.range xs.size).map fun k => xs.toList.reverse.getD k Value.none := by
    refine fm_some fun k hk => ?_
    have hk := List.mem_range.mp hk
    have i1 : (((xs.size : Int) - 1) + (k : Int) * (-1)).toNat = xs.size - 1 - k := by omega
    rw [i1]
    have hl : k < xs.toList.length := by rw [Array.length_toList]; exact hk
    have : xs.toList.reverse[k]? = xs.toList[xs.toList.length - 1 - k]? := List.getElem?_reverse hl
    rw [Array.length_toList] at this
    have key : xs.toList[xs.size - 1 - k]? = xs[xs.size - 1 - k]? := by simp
    rw [List.getD_eq_getElem?_getD, this, key, Array.getElem?_eq_getElem (by omega)]
    rfl
  rw [e]
  congr 1
  apply List.ext_getElem?
  intro k
  by_cases hk : k < xs.size
  · have hl : k < xs.toList.reverse.length := by rw [List.length_reverse, Array.length_toList]; exact hk
    rw [List.getElem?_map, List.getElem?_range hk, List.getElem?_eq_getElem hl]
    simp [List.getD_eq_getElem?_getD, List.getElem?_eq_getElem hl]
  · rw [List.getElem?_eq_none (by simp; omega), List.getElem?_eq_none (by simp; omega)]
theorem getItem_back {t sl : Addr} {items : Array Value} {u : Tok} {Q : Value → Shared → Prop} (ht : IsTup s.heap t items) (hs : s.heap.IsSliceOf sl .none .none (.int (-1) u)) (hsz : items.size ≤ sizeLine)
    (h : Q (.ref s.heap.objs.size) { s with heap := s.heap.push { cls := .type "tuple", data := .seq items.toList.reverse.toArray } }) : wpAny (model prog w) A (getItem (.ref t) (.ref sl)) Q E s := by
  have ok : sizeOk (.seq items.toList.reverse.toArray) := by
    show items.toList.reverse.toArray.size ≤ sizeLine
    rw [List.size_toArray, List.length_reverse, Array.length_toList]; exact hsz
  obtain ⟨ob, ho, hc, _⟩ := id hs
  have hT : s.TypeIs (.ref sl) "slice" := ⟨ob, ho, hc⟩
  unfold getItem
  try with_reducible refine wpAny_holding ?_
  first | refine wpAny_bind (wpAny_pure ?_) | skip
  refine wpAny_bind (wpAny_sequenceKey ht.typeIs (by decide) ?_)
  refine wpAny_bind (wpAny_callSpecial?_slot (name := Str.ofString "__getitem__") ht.typeIs PyProof.Rows.slot_tuple_getitem (wpAny_call_entry PyProof.Rows.slot_tuple_getitem ht.typeIs entry_tuple_getitem ?_ (args_tuple_getitem _ _)))
  show wpAny _ _ (Builtin.Tuple.tupleItemsOf (.ref t) >>= _) _ _ s
  refine wpAny_bind (tupleItemsOf_ ht (wpAny_bind (wpAny_typeOf hT ?_)))
  rw [if_pos (by decide)]
  refine wpAny_bind (back_parts hs ?_)
  show wpAny _ _ (if (((items.size : Int) - 1) == 0 && (-1 : Int) == 1 && items.size == items.size) = true then _ else _) _ _ s
  rw [if_neg (by simp), back_pick]
  first
    | exact wpAny_bind (m := Builtin.Tuple.tupleExact _) (wpAny_newObj_type (wpAny_pure ⟨_, rfl, wpAny_pure h⟩) ok)
    | exact wpAny_bind (m := Builtin.Tuple.tupleExact _) (wpAny_newObj_type (wpAny_bind (wpAny_pure (wpAny_pure ⟨_, rfl, wpAny_pure h⟩))) ok)
    | exact wpAny_bind (wpAny_bind (m := Builtin.Tuple.tupleExact _) (wpAny_newObj_type (wpAny_pure (wpAny_pure ⟨_, rfl, wpAny_pure h⟩)) ok))
    | exact wpAny_bind (wpAny_bind (m := Builtin.Tuple.tupleExact _) (wpAny_newObj_type (wpAny_pure ⟨_, rfl, wpAny_pure h⟩) ok))
end
def tBack (K : PySem.W.Frag) (te : TE) : TE := fun σ H Q => te σ H fun x H1 => ∃ a xs, x = .ref a ∧ ((SqT K H1 a xs ∧ ∀ p, H1 p = none → Q (.ref p) (upd H1 p (.tup xs.reverse))) ∨ (SqL K H1 a xs ∧ ∀ p, H1 p = none → Q (.ref p) (upd H1 p (.lst xs.reverse))))
section
open PyProof.Rows
theorem pe_back {X : Cx} {e : Expr} {te : TE} {k : Nat} {p1 p2 p3 pos : Pos} (he : PE X e te) : PE X (.Subscript e (.Slice none none (some (.UnaryOp .USub (.Constant (.int 1) k p1) p2)) p3) pos) (tBack X.K te) := by
  refine ⟨fun pins s σ H Q I h => Subscript_ (thn (he.run pins s σ H _ I h) fun v s1 ⟨x, H1, I1, r1, a, xs, ex, q1⟩ => ?_)⟩
  subst ex
  cases r1
  have neg : PO X (some (.UnaryOp .USub (.Constant (.int 1) k p1) p2)) (tPart (tUn (rU fun i => .int (-i)) (tC (.int 1)))) := po_some (pe_un un_neg pe_int)
  refine wpAny_Slice (thn (po_none.run pins s1 σ H1 (fun o H2 => o = none ∧ H2 = H1) I1 ⟨rfl, rfl⟩) fun vl s2 ⟨_, _, I2, pl, el, e2⟩ => ?_)
  subst el; subst e2
  refine thn (po_none.run pins s2 σ _ (fun o H3 => o = none ∧ H3 = _) I2 ⟨rfl, rfl⟩) fun vu s3 ⟨_, _, I3, pu, eu, e3⟩ => ?_
  subst eu; subst e3
  refine thn (neg.run pins s3 σ _ (fun o H4 => o = some (-1) ∧ H4 = _) I3 ⟨1, rfl, -1, rfl, rfl, rfl⟩) fun vs s4 ⟨_, _, I4, ps, eo, e4⟩ => ?_
  subst eo; subst e4
  cases pl; cases pu
  cases ps with
  | int _ t =>
    have I5 := I4.kept (t' := s4.toks) (h' := s4.heap.push { cls := .type "slice", data := .fields #[.none, .none, .int (-1) t] }) fun b ob q => Heap.get?_push_of_some _ q
    rcases q1 with ⟨hq, q⟩ | ⟨hq, q⟩
    · obtain ⟨its, r, ht, hz⟩ := I5.tuple hq
      have hl := r.length
      refine tail_any (ops := [.ref a, .ref s4.heap.objs.size]) ht.typeIs PyProof.Rows.slot_tuple_getitem.lookup ?_ (by with_unfolding_all rfl)
      refine getItem_back ht (Heap.IsSliceOf.new _ .none .none _) (by rw [List.size_toArray]; omega) ⟨.ref _, _, I5.laid (t' := s4.toks) (o := .tup xs.reverse) (fun b ob q => Heap.get?_push_of_some _ q) (Nat.le_refl _) ⟨by rw [List.length_reverse]; exact hz, _, r.reverse, ?_⟩, rfl, q _ (I5.hok.fresh (Nat.le_refl _))⟩
      exact IsTup.new _ _
    · obtain ⟨its, r, ht, hz⟩ := I5.list hq
      have hl := r.length
      refine tail_any (ops := [.ref a, .ref s4.heap.objs.size]) ht.isList.typeIs PySem.slot_list_getitem.lookup ?_ (by with_unfolding_all rfl)
      refine wpAny_getItem_list_slice ht.isList (Heap.IsSliceOf.new _ .none .none _) .none .none (.int _ _) (by decide) ?_ (by rw [List.size_toArray]; omega)
      rw [PySem.W.krv_pick]
      exact ⟨.ref _, _, I5.laid (t' := s4.toks) (o := .lst xs.reverse) (fun b ob q => Heap.get?_push_of_some _ q) (Nat.le_refl _) ⟨by rw [List.length_reverse]; exact hz, _, 0, r.reverse, Heap.get?_push_size _ rfl⟩, rfl, q _ (I5.hok.fresh (Nat.le_refl _))⟩
end
def gBack : PyData → Option PyData
  | .tuple xs => some (.tuple xs.reverse)
  | .list xs => some (.list xs.reverse)
  | _ => none
section
variable {ι : Type} {Xf : ι → Cx} {P : Program} {w : World} {K : PySem.W.Frag} {mg : Str → Option Value} {base : Heap} {n : Nat} [F : Fam Xf P w K mg base n]
variable {m m1 : List Ty} {a : Expr} {ef : Ef} {k : Nat} {p1 p2 p3 pos : Pos}
theorem DqA.rev {G : Hp} {xs : List V} {ds : List PyData} (q : DqA K G xs ds) : DqA K G xs.reverse ds.reverse := by
  refine ⟨by rw [List.length_reverse, List.length_reverse]; exact q.1, fun i v d h1 h2 => ?_⟩
  have hi : i < xs.length := by have := (List.getElem?_eq_some_iff.mp h1).1; rw [List.length_reverse] at this; exact this
  rw [List.getElem?_reverse hi] at h1
  rw [List.getElem?_reverse (by rw [← q.1]; exact hi), ← q.1] at h2
  exact q.2 _ v d h1 h2
include F in
theorem pd_back (ha : PD Xf K m a .s ef m1) : PD Xf K m (.Subscript a (.Slice none none (some (.UnaryOp .USub (.Constant (.int 1) k p1) p2)) p3) pos) .s (e1 gBack ef) m1 := by
  obtain ⟨ta, pa, da⟩ := ha.ex
  refine ⟨_, fun i => by have := pe_back (k := k) (p1 := p1) (p2 := p2) (p3 := p3) (pos := pos) (pa i); rw [F.kk i] at this; exact this, fun {G H σ e A d e' Q} st hf kk => ?_⟩
  unfold e1 at hf
  obtain ⟨⟨d1, e1⟩, hf1, hf⟩ := Option.bind_eq_some_iff.mp hf
  obtain ⟨d2, hf2, hf⟩ := Option.bind_eq_some_iff.mp hf
  cases hf
  refine da st hf1 fun G1 H1 v1 A1 B1 s1 st1 o1 nd1 => ?_
  cases o1 with
  | s q1 =>
    cases d1 with
    | tuple ds =>
      cases hf2
      obtain ⟨b, xs, rfl, r1, z1, qq⟩ := dq_tup q1
      refine ⟨b, xs, rfl, .inl ⟨same_seqT st1.sub r1, ?_⟩⟩
      exact ans_tup st1 qq.rev (by rw [List.length_reverse]; exact z1) fun G2 H2 v Av A2 s2 => kk G2 H2 v Av A2 (s1.seq0 s2)
    | list ds =>
      cases hf2
      obtain ⟨b, xs, rfl, r1, z1, qq⟩ := dq_lst q1
      refine ⟨b, xs, rfl, .inr ⟨.inl (same_rd st1.sub r1), ?_⟩⟩
      exact ans_lst st1 qq.rev (by rw [List.length_reverse]; exact z1) (kfrz rfl fun G2 H2 v Av A2 s2 => kk G2 H2 v Av A2 (s1.seq0 s2))
    | _ => cases hf2
end
end DL

namespace DL
open PySem L2 PySem.Spec

/-! ### the data's side, run -/
section
variable {f g h : Ef} {a b : Ef} {e e' e1 e2 : En} {j : Nat} {d d1 d2 : PyData} {fb gb : Bf} {fr : Lf} {sf sg : Sf} {fq gq gi : Gq} {pt : Pf} {gf : Gf} {gs : Gsf} {o : Out}
@[simp] theorem rVar : eVar j e = some (e.getD j .none, e) := rfl
@[simp] theorem rC : eC d e = some (d, e) := rfl
@[simp] theorem r1 {gg : PyData → Option PyData} : DL.e1 gg a e = (a e).bind fun p => (gg p.1).bind fun r => some (r, p.2) := rfl
@[simp] theorem r2 {gg : PyData → PyData → Option PyData} : DL.e2 gg a b e = (a e).bind fun p => (b p.2).bind fun q => (gg p.1 q.1).bind fun r => some (r, q.2) := rfl
@[simp] theorem rTup : eTup fr e = (fr e).bind fun p => some (.tuple p.1, p.2) := rfl
@[simp] theorem rLst : eLst fr e = (fr e).bind fun p => some (.list p.1, p.2) := rfl
@[simp] theorem rlNil : lNil e = some ([], e) := rfl
@[simp] theorem rlCons : lCons f fr e = (f e).bind fun p => (fr p.2).bind fun q => some (p.1 :: q.1, q.2) := rfl
@[simp] theorem rLend : eLend e = some (.none, e) := rfl
@[simp] theorem rCall {Fn : DFn} : eCall Fn fr e = (fr e).bind fun p => (Fn p.1).bind fun q => some (q.1, p.2) := rfl
@[simp] theorem rCallL {Fn : DFn} {k : Nat} : eCallL Fn k j fr e = (fr e).bind fun p => (Fn (p.1.set k (p.2.getD j .none))).bind fun q => some (q.1, p.2.set j (q.2.getD k .none)) := rfl
@[simp] theorem rbOf : bOf f e = (f e).bind fun p => (gTruth p.1).bind fun b => some (b, p.2) := rfl
@[simp] theorem rbT : bT f e = (f e).bind fun p => match p.1 with | .bool b => some (b, p.2) | _ => none := rfl
@[simp] theorem rbAnd : bAnd fb gb e = (fb e).bind fun p => if p.1 = true then gb p.2 else some (false, p.2) := rfl
@[simp] theorem rbOr : bOr fb gb e = (fb e).bind fun p => if p.1 = true then some (true, p.2) else gb p.2 := rfl
@[simp] theorem rbNot : bNot fb e = (fb e).bind fun p => some (!p.1, p.2) := rfl
@[simp] theorem reAnd : eAnd f g e = (f e).bind fun p => match p.1 with
  | .bool true => g p.2
  | .bool false => some (.bool false, p.2)
  | _ => none := rfl
@[simp] theorem reOr : eOr f g e = (f e).bind fun p => match p.1 with
  | .bool true => some (.bool true, p.2)
  | .bool false => g p.2
  | _ => none := rfl
@[simp] theorem reIf : eIf fb f g e = (fb e).bind fun p => if p.1 = true then f p.2 else g p.2 := rfl
@[simp] theorem rChain {g1 g2 : PyData → PyData → Option PyData} : eChain g1 g2 f g h e = (f e).bind fun p => (g p.2).bind fun q => (g1 p.1 q.1).bind fun r => match r with
  | .bool true => (h q.2).bind fun t => (g2 q.1 t.1).bind fun z => some (z, t.2)
  | .bool false => some (.bool false, q.2)
  | _ => none := rfl
@[simp] theorem rqVar : qVar j e = some (e.getD j .none) := rfl
@[simp] theorem rqC : qC d e = some d := rfl
@[simp] theorem rq1 {gg : PyData → Option PyData} : DL.q1 gg fq e = (fq e).bind gg := rfl
@[simp] theorem rq2 {gg : PyData → PyData → Option PyData} : DL.q2 gg fq gq e = (fq e).bind fun x => (gq e).bind fun y => gg x y := rfl
@[simp] theorem reQ : eQ fq e = (fq e).bind fun d => if scD d = true then some (d, e) else none := rfl
@[simp] theorem rbQ : bQ fq e = (fq e).bind fun d => (gTruth d).map fun b => (b, e) := rfl
@[simp] theorem rbQT : bQT fq e = (fq e).bind fun d => match d with | .bool b => some (b, e) | _ => none := rfl
@[simp] theorem rqS : qS fq e = (fq e).bind fun d => if scD d = true then some d else none := rfl
@[simp] theorem rpVar : pVar j e d = e.set j d := rfl
@[simp] theorem rSub1 : gSub1 gq gi e = (gq e).bind fun d => (gi e).bind fun i => itemD d i := rfl
@[simp] theorem rpSub1 : pSub1 gq gi pt e d = pt e (setD ((gq e).getD .none) ((gi e).getD .none) d) := rfl
@[simp] theorem rItm : eItm gq gi e = (gq e).bind fun d => (gi e).bind fun i => (itemD d i).map fun x => (x, e) := rfl
@[simp] theorem rApp : eApp j f e = (f e).bind fun p => match e.getD j .none with
  | .list ds => if ds.length < sizeLine then some (.none, p.2.set j (.list (ds ++ [p.1]))) else none
  | _ => none := rfl
@[simp] theorem rAppV : eAppV gq pt gi e = (gq e).bind fun d => (gi e).bind fun x => match d with
  | .list ds => if ds.length < sizeLine then some (.none, pt e (.list (ds ++ [x]))) else none
  | _ => none := rfl
@[simp] theorem rPop : ePop gq pt e = (gq e).bind fun d => match d with
  | .list ds => (ds[ds.length - 1]?).map fun x => (x, pt e (.list ds.dropLast))
  | _ => none := rfl
@[simp] theorem rPopAt : ePopAt gq pt gi e = (gq e).bind fun d => (gi e).bind fun i => match d, i with
  | .list ds, .int k => if -(2 ^ 63) ≤ k ∧ k < 2 ^ 63 then (ixN ds.length k).bind fun j => (ds[j]?).map fun x => (x, pt e (.list (ds.eraseIdx j))) else none
  | _, _ => none := rfl
@[simp] theorem rsSet : sSet gq pt gi f e = (f e).bind fun p => (gq p.2).bind fun d => (gi p.2).bind fun i => match d, i with
  | .list ds, .int k => (ixN ds.length k).map fun j => (.nx, pt p.2 (.list (ds.set j p.1)))
  | _, _ => none := rfl
@[simp] theorem rsNil : sNil e = some (.nx, e) := rfl
@[simp] theorem rsSeq : sSeq sf sg e = (sf e).bind fun p => match p.1 with
  | .nx => sg p.2
  | o => some (o, p.2) := rfl
@[simp] theorem rsIf : sIf fb sf sg e = (fb e).bind fun p => if p.1 = true then sf p.2 else sg p.2 := rfl
@[simp] theorem rsRet : sRet f e = (f e).map fun p => (.rt p.1, p.2) := rfl
@[simp] theorem rsRetN : sRetN e = some (.rt .none, e) := rfl
@[simp] theorem rsBrk : sBrk e = some (.bk, e) := rfl
@[simp] theorem rsCnt : sCnt e = some (.ct, e) := rfl
@[simp] theorem rsDrop : sDrop f e = (f e).map fun p => (.nx, p.2) := rfl
@[simp] theorem rsAsg : sAsg j f e = (f e).map fun p => (.nx, p.2.set j p.1) := rfl
@[simp] theorem rsTg : sTg f gf e = (f e).bind fun p => (gf p.1 p.2).map fun e' => (.nx, e') := rfl
@[simp] theorem rsPar {i : Nat} : sPar i j fr e = (fr e).bind fun p => match p.1 with
  | [x, y] => some (.nx, (p.2.set i x).set j y)
  | _ => none := rfl
@[simp] theorem rsPar3 {i l : Nat} : sPar3 i j l fr e = (fr e).bind fun p => match p.1 with
  | [x, y, z] => some (.nx, ((p.2.set i x).set j y).set l z)
  | _ => none := rfl
@[simp] theorem rsFor {it : Lf} : sFor it gf sf e = (it e).bind fun p => forL gf sf p.1 p.2 := rfl
@[simp] theorem rsWh {n : Nat} : sWh n fb sf e = whL fb sf n e := rfl
@[simp] theorem reLc {it : Lf} {vs : List Nat} : eLc it vs gf fb f e = (it e).bind fun p => (lcL vs gf fb f p.1 p.2).bind fun q => some (.list q.1, restE p.2 q.2 vs) := rfl
@[simp] theorem rbYes : bYes e = some (true, e) := rfl
@[simp] theorem riSeq : iSeq f e = (f e).bind fun p => (seqD p.1).bind fun ds => some (ds, p.2) := rfl
@[simp] theorem riEn : iEn f e = (f e).bind fun p => (seqD p.1).bind fun ds => some (enumD 0 ds, p.2) := rfl
@[simp] theorem riZp : iZp f g e = (f e).bind fun p => (g p.2).bind fun q => (zipS p.1 q.1).bind fun ds => some (ds, q.2) := rfl
@[simp] theorem riR1 : iR1 f e = (f e).bind fun p => (rng1 p.1).bind fun ds => some (ds, p.2) := rfl
@[simp] theorem riR2 : iR2 f g e = (f e).bind fun p => (g p.2).bind fun q => (rng2 p.1 q.1).bind fun ds => some (ds, q.2) := rfl
@[simp] theorem rgNm : gNm j d e = some (e.set j d) := rfl
@[simp] theorem rgsNil : gsNil [] e = some e := rfl
@[simp] theorem rgsCons {ds : List PyData} : gsCons gf gs (d :: ds) e = (gf d e).bind fun e' => gs ds e' := rfl
theorem rgTp {k : Nat} {ds : List PyData} (h : ds.length = k) : gTp k gs (.tuple ds) e = gs ds e := by show (if ds.length = k then gs ds e else none) = _; rw [if_pos h]
@[simp] theorem rgTp2 {x y : PyData} : gTp 2 gs (.tuple [x, y]) e = gs [x, y] e := rgTp rfl
@[simp] theorem rgTp3 {x y z : PyData} : gTp 3 gs (.tuple [x, y, z]) e = gs [x, y, z] e := rgTp rfl
@[simp] theorem rrest0 : restE e e' [] = e' := rfl
@[simp] theorem rrest1 {v : Nat} {vs : List Nat} : restE e e' (v :: vs) = restE e (e'.set v (e.getD v .none)) vs := rfl
@[simp] theorem rItmG : eItmG j f e = (f e).bind fun p => (itemD (p.2.getD j .none) p.1).map fun x => (x, p.2) := rfl
@[simp] theorem rCallL2 {Fn : DFn} {k1 j1 k2 j2 : Nat} : eCallL2 Fn k1 j1 k2 j2 fr e = (fr e).bind fun p => (Fn ((p.1.set k1 (p.2.getD j1 .none)).set k2 (p.2.getD j2 .none))).bind fun q => some (q.1, (p.2.set j2 (q.2.getD k2 .none)).set j1 (q.2.getD k1 .none)) := rfl
@[simp] theorem rLsR {lf : Lf} : eLsR lf e = (lf e).map fun p => (.list p.1, p.2) := rfl
@[simp] theorem rTpR {lf : Lf} : eTpR lf e = (lf e).map fun p => (.tuple p.1, p.2) := rfl
@[simp] theorem rgd0 {x : PyData} : List.getD (x :: e) 0 d = x := rfl
@[simp] theorem rgdS {x : PyData} : List.getD (x :: e) (j + 1) d = List.getD e j d := rfl
end
end DL

namespace DL
open PySem L2 PySem.Spec

/-! ### data, plainly -/
@[simp] theorem xAdd {i j : Int} : gAdd (.int i) (.int j) = some (.int (i + j)) := rfl
@[simp] theorem xSub {i j : Int} : DL.gSub (.int i) (.int j) = some (.int (i - j)) := rfl
@[simp] theorem xNeg {i : Int} : gNeg (.int i) = some (.int (-i)) := rfl
@[simp] theorem xMul {i j : Int} : gMul (.int i) (.int j) = if mulOk i j = true then some (.int (i * j)) else none := rfl
@[simp] theorem xFdiv {i j : Int} : gFdiv (.int i) (.int j) = if 0 < j ∧ j < 1073741824 then some (.int (i / j)) else none := rfl
@[simp] theorem xMod {i j : Int} : gMod (.int i) (.int j) = if 0 < j then some (.int (i % j)) else none := rfl
@[simp] theorem xLt {i j : Int} : gLt (.int i) (.int j) = some (.bool (decide (i < j))) := rfl
@[simp] theorem xGt {i j : Int} : gGt (.int i) (.int j) = some (.bool (decide (j < i))) := rfl
@[simp] theorem xLe {i j : Int} : gLe (.int i) (.int j) = some (.bool (decide (i ≤ j))) := rfl
@[simp] theorem xGe {i j : Int} : gGe (.int i) (.int j) = some (.bool (decide (j ≤ i))) := rfl
theorem eqv_int {i j : Int} : PyData.eqv (.int i) (.int j) = decide (i = j) := by
  unfold PyData.eqv
  by_cases h : i = j <;> simp [h]
theorem dep_sc {a b : PyData} (h : a.depth = 0) : dep a b = true := by unfold dep; rw [h]; simp
@[simp] theorem xEq {i j : Int} : gEq (.int i) (.int j) = some (.bool (decide (i = j))) := by
  unfold gEq
  rw [dep_sc rfl, if_pos rfl, eqv_int]
@[simp] theorem xNe {i j : Int} : gNe (.int i) (.int j) = some (.bool (!decide (i = j))) := by
  unfold gNe
  rw [dep_sc rfl, if_pos rfl, eqv_int]
theorem dep_r {a b : PyData} (h : b.depth ≤ 60) : dep a b = true := by unfold dep; exact decide_eq_true (Nat.le_trans (Nat.min_le_right _ _) h)
theorem dep_l {a b : PyData} (h : a.depth ≤ 60) : dep a b = true := by unfold dep; exact decide_eq_true (Nat.le_trans (Nat.min_le_left _ _) h)
theorem eqv_nil {xs : List PyData} : PyData.eqvAll xs [] = xs.isEmpty := by cases xs <;> simp [PyData.eqvAll]
@[simp] theorem xNeNil {xs : List PyData} : gNe (.list xs) (.list []) = some (.bool (!xs.isEmpty)) := by
  unfold gNe
  rw [dep_r (by decide), if_pos rfl, PyData.eqv, eqv_nil]
@[simp] theorem xEqNil {xs : List PyData} : gEq (.list xs) (.list []) = some (.bool xs.isEmpty) := by
  unfold gEq
  rw [dep_r (by decide), if_pos rfl, PyData.eqv, eqv_nil]
@[simp] theorem xNeNilT {xs : List PyData} : gNe (.tuple xs) (.tuple []) = some (.bool (!xs.isEmpty)) := by
  unfold gNe
  rw [dep_r (by decide), if_pos rfl, PyData.eqv, eqv_nil]
@[simp] theorem xEqNilT {xs : List PyData} : gEq (.tuple xs) (.tuple []) = some (.bool xs.isEmpty) := by
  unfold gEq
  rw [dep_r (by decide), if_pos rfl, PyData.eqv, eqv_nil]
@[simp] theorem xLenL {xs : List PyData} : gLen (.list xs) = some (.int xs.length) := rfl
@[simp] theorem xLenT {xs : List PyData} : gLen (.tuple xs) = some (.int xs.length) := rfl
@[simp] theorem xTupL {xs : List PyData} : gTuple (.list xs) = some (.tuple xs) := rfl
@[simp] theorem xTupT {xs : List PyData} : gTuple (.tuple xs) = some (.tuple xs) := rfl
@[simp] theorem xListL {xs : List PyData} : gList (.list xs) = some (.list xs) := rfl
@[simp] theorem xListT {xs : List PyData} : gList (.tuple xs) = some (.list xs) := rfl
@[simp] theorem xAbs {i : Int} : gAbs (.int i) = some (.int (if i < 0 then -i else i)) := rfl
@[simp] theorem xIxL {xs : List PyData} {i : Int} : gIx (.list xs) (.int i) = atI xs i := rfl
@[simp] theorem xIxT {xs : List PyData} {i : Int} : gIx (.tuple xs) (.int i) = atI xs i := rfl
@[simp] theorem xItem {xs : List PyData} {i : Int} : itemD (.list xs) (.int i) = atI xs i := rfl
@[simp] theorem xSeqL {xs : List PyData} : seqD (.list xs) = some xs := rfl
@[simp] theorem xSeqT {xs : List PyData} : seqD (.tuple xs) = some xs := rfl
@[simp] theorem xZipL {xs ys : List PyData} : zipS (.list xs) (.list ys) = some (zipD xs ys) := rfl
@[simp] theorem xZipT {xs ys : List PyData} : zipS (.tuple xs) (.tuple ys) = some (zipD xs ys) := rfl
@[simp] theorem xIsa {p : PyData → Bool} {d : PyData} : gIsa p d = some (.bool (p d)) := rfl
@[simp] theorem xTruB {b : Bool} : gTruth (.bool b) = some b := rfl
@[simp] theorem xTruL {xs : List PyData} : gTruth (.list xs) = some (!xs.isEmpty) := rfl
@[simp] theorem xTruT {xs : List PyData} : gTruth (.tuple xs) = some (!xs.isEmpty) := rfl
@[simp] theorem xIsN {d : PyData} : gIs d .none = some (.bool (match d with | .none => true | _ => false)) := by cases d <;> rfl
@[simp] theorem xIsNotN {d : PyData} : gIsNot d .none = some (.bool (match d with | .none => false | _ => true)) := by cases d <;> rfl
@[simp] theorem xBackT {xs : List PyData} : gBack (.tuple xs) = some (.tuple xs.reverse) := rfl
@[simp] theorem xBackL {xs : List PyData} : gBack (.list xs) = some (.list xs.reverse) := rfl
@[simp] theorem xAllL {xs : List PyData} : gAll (.list xs) = some (.bool (xs.all PyData.truthy)) := rfl
@[simp] theorem xAnyL {xs : List PyData} : gAny (.list xs) = some (.bool (xs.any PyData.truthy)) := rfl
@[simp] theorem xAddLL {xs ys : List PyData} : gAddL (.list xs) (.list ys) = if xs.length + ys.length ≤ sizeLine then some (.list (xs ++ ys)) else none := rfl
@[simp] theorem xAddL {xs ys : List PyData} : gAdd (.list xs) (.list ys) = if xs.length + ys.length ≤ sizeLine then some (.list (xs ++ ys)) else none := rfl
@[simp] theorem xAddT {xs ys : List PyData} : gAdd (.tuple xs) (.tuple ys) = if xs.length + ys.length ≤ sizeLine then some (.tuple (xs ++ ys)) else none := rfl
@[simp] theorem xPow {i j : Int} : gPow (.int i) (.int j) = if 0 ≤ j ∧ j ≤ 1000000 ∧ i.natAbs < 2 ^ 64 then some (.int (i ^ j.toNat)) else none := rfl
@[simp] theorem scInt {i : Int} : scD (.int i) = true := rfl
@[simp] theorem scBool {i : Bool} : scD (.bool i) = true := rfl
@[simp] theorem at0 {α : Type} {a : α} {l : List α} : atI (a :: l) 0 = some a := by
  have : atI (a :: l) ((0 : Nat) : Int) = some a := atI_nat rfl
  exact this
@[simp] theorem at1 {α : Type} {a b : α} {l : List α} : atI (a :: b :: l) 1 = some b := by
  have : atI (a :: b :: l) ((1 : Nat) : Int) = some b := atI_nat rfl
  exact this
@[simp] theorem at2 {α : Type} {a b c : α} {l : List α} : atI (a :: b :: c :: l) 2 = some c := by
  have : atI (a :: b :: c :: l) ((2 : Nat) : Int) = some c := atI_nat rfl
  exact this
theorem ixN_nat {n j : Nat} (h : j < n) : ixN n ((j : Nat) : Int) = some j := by
  unfold ixN
  simp [h]
@[simp] theorem ixn0 {n : Nat} : ixN (n + 1) 0 = some 0 := ixN_nat (j := 0) (by omega)
@[simp] theorem ixn1 {n : Nat} : ixN (n + 1 + 1) 1 = some 1 := ixN_nat (j := 1) (by omega)
@[simp] theorem ixn2 {n : Nat} : ixN (n + 1 + 1 + 1) 2 = some 2 := ixN_nat (j := 2) (by omega)
theorem at_of {α : Type} {l : List α} {i : Int} (h0 : 0 ≤ i) (h1 : i < l.length) : ∃ h, atI l i = some (l[i.toNat]'h) := by
  have h2 : i.toNat < l.length := by omega
  refine ⟨h2, ?_⟩
  have : atI l ((i.toNat : Nat) : Int) = some (l[i.toNat]'h2) := atI_nat (List.getElem?_eq_getElem h2)
  rwa [show ((i.toNat : Nat) : Int) = i by omega] at this
theorem at_map {α β : Type} {f : α → β} {xs : List α} {i : Int} (h0 : 0 ≤ i) (h1 : i < xs.length) : ∃ a, xs[i.toNat]? = some a ∧ a ∈ xs ∧ atI (xs.map f) i = some (f a) := by
  have h2 : i.toNat < xs.length := by omega
  refine ⟨xs[i.toNat], List.getElem?_eq_getElem h2, List.getElem_mem h2, ?_⟩
  have : atI (xs.map f) ((i.toNat : Nat) : Int) = some (f xs[i.toNat]) := atI_nat (by rw [List.getElem?_map, List.getElem?_eq_getElem h2]; rfl)
  rwa [show ((i.toNat : Nat) : Int) = i by omega] at this
theorem rng1_ok {n : Int} (h : 0 ≤ n) (h2 : n ≤ 1000) : rng1 (.int n) = some ((List.range n.toNat).map fun i => .int (i : Nat)) := by
  show (if n.toNat ≤ sizeLine ∧ -(2 ^ 62) ≤ n ∧ n < 2 ^ 62 then some (rngD 0 n.toNat) else none) = _
  rw [if_pos ⟨Nat.le_trans (show n.toNat ≤ 1000 by omega) (by decide), by omega, by omega⟩]
  unfold rngD
  simp
@[simp] theorem finS {t : Ty} {ts : List Ty} {d e : PyData} {ds es : List PyData} : fins (t :: ts) (d :: ds) (e :: es) = (if stb t = true then d else e) :: fins ts ds es := rfl
@[simp] theorem finN {ds es : List PyData} : fins [] ds es = [] := rfl
@[simp] theorem stbs : stb .s = true := rfl
@[simp] theorem stbq : stb .q = true := rfl
@[simp] theorem stbl {t : Ty} : stb (.l t) = false := rfl
@[simp] theorem stbr {t : List Ty} : stb (.r t) = false := rfl
@[simp] theorem rRun {f : Sf} {ptys : List Ty} {r : Nat} {ds : List PyData} : runF f ptys r ds = (f (ds ++ List.replicate r .none)).bind fun p => match p.1 with
  | .rt d => some (d, fins ptys ds p.2)
  | .nx => some (.none, fins ptys ds p.2)
  | _ => none := rfl
@[simp] theorem rep0 {x : PyData} : List.replicate 0 x = [] := rfl
@[simp] theorem repS {x : PyData} {n : Nat} : List.replicate (n + 1) x = x :: List.replicate n x := rfl
/-! ### comprehensions -/
theorem lcM {α : Type} {vs : List Nat} {gf : Gf} {tf : Bf} {ef : Ef} {e : En} (mk : α → PyData) (p : α → Bool) (y : α → PyData) : ∀ (xs : List α), (∀ a ∈ xs, ∃ e1 e2, gf (mk a) e = some e1 ∧ tf e1 = some (p a, e2) ∧ (if p a = true then ∃ e3, ef e2 = some (y a, e3) ∧ restE e e3 vs = e else restE e e2 vs = e)) →
    lcL vs gf tf ef (xs.map mk) e = some ((xs.filter p).map y, e)
  | [], _ => rfl
  | a :: xs, h => by
    obtain ⟨e1, e2, h1, h2, h3⟩ := h a (List.mem_cons_self ..)
    have ih := lcM mk p y xs fun b hb => h b (List.mem_cons_of_mem _ hb)
    show (gf (mk a) e).bind _ = _
    rw [h1]
    show (tf e1).bind _ = _
    rw [h2]
    show (if p a = true then _ else _) = _
    by_cases hp : p a = true
    · rw [if_pos hp] at h3 ⊢
      obtain ⟨e3, h4, h5⟩ := h3
      rw [h4]
      show (lcL vs gf tf ef (xs.map mk) (restE e e3 vs)).bind _ = _
      rw [h5, ih, List.filter_cons_of_pos hp]
      rfl
    · rw [if_neg hp] at h3 ⊢
      show lcL vs gf tf ef (xs.map mk) (restE e e2 vs) = _
      rw [h3, ih, List.filter_cons_of_neg hp]
theorem lcY {α : Type} {vs : List Nat} {gf : Gf} {ef : Ef} {e : En} (mk : α → PyData) (y : α → PyData) (xs : List α) (h : ∀ a ∈ xs, ∃ e1 e3, gf (mk a) e = some e1 ∧ ef e1 = some (y a, e3) ∧ restE e e3 vs = e) :
    lcL vs gf bYes ef (xs.map mk) e = some (xs.map y, e) := by
  have := lcM (vs := vs) (gf := gf) (tf := bYes) (ef := ef) (e := e) mk (fun _ => true) y xs fun a ha => by
    obtain ⟨e1, e3, h1, h2, h3⟩ := h a ha
    exact ⟨e1, e1, h1, rfl, by rw [if_pos rfl]; exact ⟨e3, h2, h3⟩⟩
  rw [List.filter_eq_self.mpr fun _ _ => rfl] at this
  exact this
/-! ### loops -/
theorem for_inv {α : Type} {gf : Gf} {sf : Sf} (mk : α → PyData) (Inv : Nat → En → Prop) : ∀ (xs : List α) (k : Nat) (e : En), Inv k e → (∀ i a e, xs[i]? = some a → Inv (k + i) e → ∃ e1 e2, gf (mk a) e = some e1 ∧ (sf e1 = some (.nx, e2) ∨ sf e1 = some (.ct, e2)) ∧ Inv (k + i + 1) e2) →
    ∃ e', forL gf sf (xs.map mk) e = some (.nx, e') ∧ Inv (k + xs.length) e'
  | [], k, e, h0, _ => ⟨e, rfl, h0⟩
  | a :: xs, k, e, h0, hs => by
    obtain ⟨e1, e2, h1, h2, h3⟩ := hs 0 a e rfl h0
    obtain ⟨e', h4, h5⟩ := for_inv mk Inv xs (k + 1) e2 h3 fun i b e hb hi => by
      have := hs (i + 1) b e (by simpa using hb) (by rw [show k + (i + 1) = k + 1 + i by omega]; exact hi)
      rw [show k + (i + 1) + 1 = k + 1 + i + 1 by omega] at this
      exact this
    refine ⟨e', ?_, by rw [List.length_cons, show k + (xs.length + 1) = k + 1 + xs.length by omega]; exact h5⟩
    show (gf (mk a) e).bind _ = _
    rw [h1]
    show (sf e1).bind _ = _
    rcases h2 with h2 | h2 <;> (rw [h2]; exact h4)
end DL

namespace DL
open PySem L2 PySem.Spec
theorem le1000 {n : Nat} (h : n ≤ 1000) : n ≤ sizeLine := Nat.le_trans h (by decide)
@[simp] theorem xEqS {x y : Str} : gEq (.str x) (.str y) = some (.bool (x == y)) := by
  unfold gEq
  rw [dep_sc rfl, if_pos rfl, PyData.eqv]
@[simp] theorem xNeS {x y : Str} : gNe (.str x) (.str y) = some (.bool (!(x == y))) := by
  unfold gNe
  rw [dep_sc rfl, if_pos rfl, PyData.eqv]
theorem enum_map {α : Type} (f : α → PyData) : ∀ (k : Nat) (xs : List α), enumD k (xs.map f) = (xs.zipIdx k).map fun p => .tuple [.int (p.2 : Nat), f p.1]
  | _, [] => rfl
  | k, x :: xs => by
    rw [List.map_cons, List.zipIdx_cons, List.map_cons]
    unfold enumD
    rw [enum_map f (k + 1) xs]
theorem zip_self (f : PyData → PyData) : ∀ xs : List PyData, zipD xs xs = xs.map fun x => .tuple [x, x]
  | [] => rfl
  | x :: xs => by
    unfold zipD
    rw [zip_self f xs]; rfl
theorem filter_idx {α : Type} (p : α → Bool) : ∀ (k : Nat) (xs : List α), ((xs.zipIdx k).filter fun q => p q.1).length = (xs.filter p).length
  | _, [] => rfl
  | k, x :: xs => by
    rw [List.zipIdx_cons, List.filter_cons, List.filter_cons]
    have := filter_idx p (k + 1) xs
    cases h : p x <;> simp [h, this]
theorem depth_ints : ∀ ns : List Int, PyData.depthAll (ns.map .int) ≤ 0
  | [] => Nat.le_refl _
  | n :: ns => by
    rw [List.map_cons]
    unfold PyData.depthAll
    exact Nat.max_le.mpr ⟨Nat.le_refl _, depth_ints ns⟩
theorem like_ints (ns : List Int) : likeOk (ns.map .int) = true := by
  unfold likeOk
  simp only [Bool.and_eq_true, List.all_eq_true, decide_eq_true_eq]
  refine ⟨⟨fun x hx y hy => ?_, fun x hx => ?_⟩, Nat.le_trans (depth_ints ns) (by decide)⟩
  · obtain ⟨a, _, rfl⟩ := List.mem_map.mp hx
    obtain ⟨b, _, rfl⟩ := List.mem_map.mp hy
    simp [PySem.W.alike]
  · obtain ⟨a, _, rfl⟩ := List.mem_map.mp hx
    rfl
def maxI (n : Int) (ns : List Int) : Int := ns.foldl max n
theorem maxI_ge (n : Int) : ∀ ns : List Int, n ≤ maxI n ns ∧ ∀ k ∈ ns, k ≤ maxI n ns := by
  intro ns
  induction ns generalizing n with
  | nil => exact ⟨Int.le_refl _, fun k h => by cases h⟩
  | cons a ns ih =>
    have := ih (max n a)
    refine ⟨Int.le_trans (Int.le_max_left n a) this.1, fun k hk => ?_⟩
    rcases List.mem_cons.mp hk with rfl | z
    · exact Int.le_trans (Int.le_max_right n k) this.1
    · exact this.2 k z
theorem maxI_mem (n : Int) : ∀ ns : List Int, maxI n ns = n ∨ maxI n ns ∈ ns := by
  intro ns
  induction ns generalizing n with
  | nil => exact .inl rfl
  | cons a ns ih =>
    rcases ih (max n a) with h | h
    · have e : maxI n (a :: ns) = max n a := h
      rw [e]
      rcases Int.le_total n a with q | q
      · rw [Int.max_eq_right q]; exact .inr (List.mem_cons_self ..)
      · rw [Int.max_eq_left q]; exact .inl rfl
    · exact .inr (List.mem_cons_of_mem _ h)
theorem xMaxT {n : Int} {ns : List Int} : gMax (.tuple (.int n :: ns.map .int)) = some (.int (maxI n ns)) := by
  show (if likeOk ((n :: ns).map .int) = true then some (PySem.W.maxD (.int n) (ns.map .int)) else none) = _
  rw [like_ints, if_pos rfl, PySem.W.maxD_ints]; rfl
theorem xMaxL {n : Int} {ns : List Int} : gMax (.list (.int n :: ns.map .int)) = some (.int (maxI n ns)) := by
  show (if likeOk ((n :: ns).map .int) = true then some (PySem.W.maxD (.int n) (ns.map .int)) else none) = _
  rw [like_ints, if_pos rfl, PySem.W.maxD_ints]; rfl
/-- the greatest of a non-empty list of numbers -/
def maxs : List Int → Int
  | [] => 0
  | n :: ns => maxI n ns
theorem xMaxT' {ns : List Int} (h : ns ≠ []) : gMax (.tuple (ns.map .int)) = some (.int (maxs ns)) := by
  cases ns with
  | nil => exact absurd rfl h
  | cons n ns => exact xMaxT
theorem xMaxL' {ns : List Int} (h : ns ≠ []) : gMax (.list (ns.map .int)) = some (.int (maxs ns)) := by
  cases ns with
  | nil => exact absurd rfl h
  | cons n ns => exact xMaxL
theorem maxs_ge {ns : List Int} {k : Int} (h : k ∈ ns) : k ≤ maxs ns := by
  cases ns with
  | nil => cases h
  | cons n ns =>
    rcases List.mem_cons.mp h with rfl | z
    · exact (maxI_ge k ns).1
    · exact (maxI_ge n ns).2 k z
theorem maxs_mem {ns : List Int} (h : ns ≠ []) : maxs ns ∈ ns := by
  cases ns with
  | nil => exact absurd rfl h
  | cons n ns =>
    rcases maxI_mem n ns with q | q
    · show maxI n ns ∈ n :: ns
      rw [q]; exact List.mem_cons_self ..
    · exact List.mem_cons_of_mem _ q
/-- the places of the numbers that pass -/
theorem idx_filter {α : Type} (f : Nat → α) (p : α → Bool) (n : Nat) : ((((List.range n).map f).zipIdx).filter fun q => p q.1).map (fun q => q.2) = (List.range n).filter fun i => p (f i) := by
  have : ((List.range n).map f).zipIdx = (List.range n).map fun i => (f i, i) := by
    apply List.ext_getElem?
    intro i
    rw [List.getElem?_zipIdx, List.getElem?_map, List.getElem?_map]
    by_cases h : i < n
    · rw [List.getElem?_range h]; simp
    · rw [List.getElem?_eq_none (by simp; omega)]; rfl
  rw [this, List.filter_map, List.map_map]
  have : (fun q : α × Nat => q.2) ∘ (fun i => (f i, i)) = id := rfl
  rw [this, List.map_id]
  rfl
theorem rngN {n : Int} (h : 0 ≤ n) (h2 : n ≤ 1000) : rng1 (.int n) = some ((List.range n.toNat).map fun i => .int (i : Nat)) := rng1_ok h h2
end DL

namespace DL
open PySem L2 PySem.Spec
/-! ### what repr shows is small -/
def pile (ts : List Str) : Nat := (ts.map fun t => t.length + 2).sum
theorem textFrom_le : ∀ (ts : List Str) (k : Nat) (acc : Str), (textFrom k acc ts).length ≤ acc.length + pile ts
  | [], k, acc => Nat.le_refl _
  | t :: r, k, acc => by
    have ih := textFrom_le r (k + 1) (acc ++ (if k > 0 then ", " else "" : String) ++ t)
    have e : (acc ++ (if k > 0 then ", " else "" : String) ++ t).length = acc.length + (if k > 0 then 2 else 0) + t.length := by
      rw [strLen_append, strLen_append]
      split <;> rfl
    have : pile (t :: r) = t.length + 2 + pile r := rfl
    have h2 : (if k > 0 then 2 else 0) ≤ 2 := by split <;> omega
    show (textFrom (k + 1) _ r).length ≤ _
    omega
theorem join_le : ∀ ts : List Str, (Str.join ", " ts).length ≤ pile ts
  | [] => Nat.le_refl _
  | [x] => by show x.length ≤ x.length + 2 + 0; omega
  | x :: y :: r => by
    have ih := join_le (y :: r)
    show (x ++ ", " ++ Str.join ", " (y :: r)).length ≤ x.length + 2 + pile (y :: r)
    rw [strLen_append, strLen_append]
    have : ((", " : String) : Str).length = 2 := rfl
    omega
theorem shownAll_map : ∀ xs : List PyData, PyData.shownAll xs = xs.map PyData.shown
  | [] => by unfold PyData.shownAll; rfl
  | x :: xs => by unfold PyData.shownAll; rw [shownAll_map xs]; rfl
theorem list_le (xs : List PyData) : (PyData.list xs).shown.length ≤ 2 + (xs.map fun x => x.shown.length + 2).sum := by
  have e : (PyData.list xs).shown = listText (PyData.shownAll xs) := by rw [PyData.shown]
  rw [e, listText, strLen_append, shownAll_map]
  have := textFrom_le (xs.map PyData.shown) 0 "["
  have e1 : ((("[" : String) : Str)).length = 1 := rfl
  have e2 : ((("]" : String) : Str)).length = 1 := rfl
  have e3 : pile (xs.map PyData.shown) = (xs.map fun x => x.shown.length + 2).sum := by unfold pile; rw [List.map_map]; rfl
  omega
theorem tuple_le (xs : List PyData) : (PyData.tuple xs).shown.length ≤ 3 + (xs.map fun x => x.shown.length + 2).sum := by
  have e : (PyData.tuple xs).shown = tupleText (PyData.shownAll xs) := by rw [PyData.shown]
  rw [e, tupleText, strLen_append, strLen_append, shownAll_map]
  have := join_le (xs.map PyData.shown)
  have e1 : ((("(" : String) : Str)).length = 1 := rfl
  have e2 : (((if (xs.map PyData.shown).length == 1 then ",)" else ")" : String) : Str)).length ≤ 2 := by split <;> decide
  have e3 : pile (xs.map PyData.shown) = (xs.map fun x => x.shown.length + 2).sum := by unfold pile; rw [List.map_map]; rfl
  omega
/-- small data: ints of few digits, no dict; depth n, text s -/
structure Rp (n s : Nat) (d : PyData) : Prop where
  sh : d.showable = true
  nd : d.hasDict = false
  dp : d.depth ≤ n
  sz : d.shown.length ≤ s
theorem Rp.mono {n n' s s' : Nat} {d : PyData} (h : Rp n s d) (a : n ≤ n') (b : s ≤ s') : Rp n' s' d := ⟨h.sh, h.nd, Nat.le_trans h.dp a, Nat.le_trans h.sz b⟩
theorem rp_int {i : Int} (h : i.natAbs < 10 ^ 18) : Rp 0 20 (.int i) := by
  refine ⟨?_, rfl, Nat.le_refl _, ?_⟩
  · show decide (i.natAbs.log2 < 1920) = true
    refine decide_eq_true ?_
    by_cases z : i.natAbs = 0
    · rw [z]; decide
    · have := (Nat.log2_lt (k := 60) z).mpr (Nat.lt_of_lt_of_le h (by decide))
      omega
  · have := int_text_length_le10 (k := 18) (by decide) h
    show (Str.ofString (toString i)).length ≤ 20
    rw [ofString_length]; omega
theorem rp_none : Rp 0 20 .none := ⟨rfl, rfl, Nat.le_refl _, by show (4 : Nat) ≤ 20; decide⟩
theorem rp_bool {b : Bool} : Rp 0 20 (.bool b) := ⟨rfl, rfl, Nat.le_refl _, by cases b <;> decide⟩
theorem all_sh : ∀ {xs : List PyData}, (∀ x ∈ xs, x.showable = true) → PyData.showableAll xs = true
  | [], _ => by unfold PyData.showableAll; rfl
  | x :: xs, h => by
    unfold PyData.showableAll
    rw [h x (List.mem_cons_self ..), all_sh fun y hy => h y (List.mem_cons_of_mem _ hy)]; rfl
theorem all_nd : ∀ {xs : List PyData}, (∀ x ∈ xs, x.hasDict = false) → PyData.hasDictAll xs = false
  | [], _ => by unfold PyData.hasDictAll; rfl
  | x :: xs, h => by
    unfold PyData.hasDictAll
    rw [h x (List.mem_cons_self ..), all_nd fun y hy => h y (List.mem_cons_of_mem _ hy)]; rfl
theorem all_dp {n : Nat} : ∀ {xs : List PyData}, (∀ x ∈ xs, x.depth ≤ n) → PyData.depthAll xs ≤ n
  | [], _ => by unfold PyData.depthAll; omega
  | x :: xs, h => by
    unfold PyData.depthAll
    exact Nat.max_le.mpr ⟨h x (List.mem_cons_self ..), all_dp fun y hy => h y (List.mem_cons_of_mem _ hy)⟩
theorem sum_le {α : Type} {f : α → Nat} {c : Nat} : ∀ {xs : List α}, (∀ x ∈ xs, f x ≤ c) → (xs.map f).sum ≤ xs.length * c
  | [], _ => by simp
  | x :: xs, h => by
    have := sum_le (f := f) (xs := xs) fun y hy => h y (List.mem_cons_of_mem _ hy)
    have h0 := h x (List.mem_cons_self ..)
    rw [List.map_cons, List.sum_cons, List.length_cons, Nat.add_mul]
    omega
theorem rp_list {n s : Nat} {xs : List PyData} (h : ∀ x ∈ xs, Rp n s x) : Rp (n + 1) (xs.length * (s + 2) + 3) (.list xs) := by
  refine ⟨?_, ?_, ?_, ?_⟩
  · unfold PyData.showable; exact all_sh fun x hx => (h x hx).sh
  · unfold PyData.hasDict; exact all_nd fun x hx => (h x hx).nd
  · have := all_dp fun x hx => (h x hx).dp
    unfold PyData.depth; omega
  · have a := list_le xs
    have b := sum_le (f := fun x : PyData => x.shown.length + 2) (c := s + 2) fun x hx => Nat.add_le_add_right (h x hx).sz 2
    omega
theorem rp_tup {n s : Nat} {xs : List PyData} (h : ∀ x ∈ xs, Rp n s x) : Rp (n + 1) (xs.length * (s + 2) + 3) (.tuple xs) := by
  refine ⟨?_, ?_, ?_, ?_⟩
  · unfold PyData.showable; exact all_sh fun x hx => (h x hx).sh
  · unfold PyData.hasDict; exact all_nd fun x hx => (h x hx).nd
  · have := all_dp fun x hx => (h x hx).dp
    unfold PyData.depth; omega
  · have a := tuple_le xs
    have b := sum_le (f := fun x : PyData => x.shown.length + 2) (c := s + 2) fun x hx => Nat.add_le_add_right (h x hx).sz 2
    omega
theorem gRepr_ok {n s : Nat} {d : PyData} (h : Rp n s d) (hn : n ≤ 58) (hs : s ≤ 1000000) : gRepr d = some (.str d.shown) := by
  unfold gRepr
  rw [if_pos ⟨h.sh, h.nd, Nat.le_trans h.dp hn, Nat.le_trans h.sz (Nat.le_trans hs (by decide))⟩]
end DL

namespace LK
open PySem L2 PySem.Spec DL
/-! ### the data's side -/
/-- _law_state: 0 _law_script, 1 _law_cells, 2 _law_cell -/
def E__law_state_1 : Ef := (e1 gAbs (eVar 2))
def T__law_state_1 : Bf := (bT (e2 gGe (eVar 2) (e2 gPow (eC (.int 10)) (eC (.int 18)))))
def E__law_state_2 : Ef := (eVar 2)
def S__law_state : Sf := (sSeq (sAsg 1 (eLc (iSeq (eVar 0)) [2] (gNm 2) bYes E__law_state_1))
  (sRet (eLst (lCons (eLc (iSeq (eVar 1)) [2] (gNm 2) T__law_state_1 E__law_state_2) (lCons (e2 gAddL (eVar 1) (eLst (lCons (e2 gAdd (e1 gLen (eVar 1)) (eC (.int 7))) lNil))) (lCons (eC (.int 0)) lNil))))))
def F__law_state : DFn := runF S__law_state [.q] 2
/-- _law_draw: 0 _law_state_here, 1 _law_limit, 2 _law_rest, 3 _law_cell, 4 _law_mixed -/
def B__law_draw_1 : Sf := (sSeq (sAsg 2 (eItm (gSub1 (qVar 0) (qC (.int 0))) (qC (.int 0))))
  (sSeq (sIf (bT (e2 gGt (eVar 2) (eC (.int 0))))
    (sSeq (sSet (gSub1 (qVar 0) (qC (.int 0))) (pSub1 (qVar 0) (qC (.int 0)) (pVar 0)) (qC (.int 0)) (e2 gFdiv (eVar 2) (eVar 1)))
  (sRet (e2 gMod (eVar 2) (eVar 1))))
    sNil)
  (sDrop (ePopAt (gSub1 (qVar 0) (qC (.int 0))) (pSub1 (qVar 0) (qC (.int 0)) (pVar 0)) (qC (.int 0))))))
def W__law_draw_1 : Bf := (bQT (q2 gNe (q2 gIx (qVar 0) (qC (.int 0))) (qC (.list []))))
def S__law_draw : Sf := (sSeq (sWh fuel W__law_draw_1
    B__law_draw_1)
  (sSeq (sSet (qVar 0) (pVar 0) (qC (.int 2)) (e2 gAdd (eQ (q2 gIx (qVar 0) (qC (.int 2)))) (eC (.int 1))))
  (sSeq (sAsg 3 (e2 gMod (eItm (gSub1 (qVar 0) (qC (.int 1))) (q2 gMod (q2 gIx (qVar 0) (qC (.int 2))) (q1 gLen (q2 gIx (qVar 0) (qC (.int 1)))))) (eC (.int 2147483629))))
  (sSeq (sAsg 4 (e2 gAdd (e2 gMul (eVar 3) (e2 gAdd (eC (.int 69621)) (e2 gMul (eC (.int 2)) (eQ (q2 gIx (qVar 0) (qC (.int 2))))))) (eC (.int 30011))))
  (sSeq (sAsg 4 (e2 gMod (e2 gAdd (eVar 4) (e2 gMul (e2 gMul (eC (.int 48271)) (eQ (q2 gIx (qVar 0) (qC (.int 2))))) (eQ (q2 gIx (qVar 0) (qC (.int 2)))))) (eC (.int 2147483587))))
  (sRet (e2 gMod (e2 gFdiv (e2 gMod (e2 gMul (eVar 4) (eVar 4)) (eC (.int 2147483563))) (eC (.int 16))) (eVar 1))))))))
def F__law_draw : DFn := runF S__law_draw [(.r [(.l .s), (.l .s), .s]), .s] 3
/-- _law_pick: 0 _law_state_here, 1 _law_items -/
def S__law_pick : Sf := (sRet (eItmG 1 (eCallL F__law_draw 0 0 (lCons eLend (lCons (eQ (q1 gLen (qVar 1))) lNil)))))
def F__law_pick : DFn := runF S__law_pick [(.r [(.l .s), (.l .s), .s]), (.l .s)] 0
/-- _law_roster: 0 _law_state_here, 1 _law_people, 2 _law_most, 3 _law_teachers, 4 _law_groups, 5 _law_kind, 6 _law_lessons, 7 _law_k, 8 _law_lesson -/
def B__law_roster_1 : Sf := (sSeq (sAsg 8 (eTup (lCons (eCallL F__law_draw 0 0 (lCons eLend (lCons (eVar 3) lNil))) (lCons (eCallL F__law_draw 0 0 (lCons eLend (lCons (eVar 4) lNil))) lNil))))
  (sSeq (sIf (bAnd (bT (e2 gEq (eVar 5) (eC (.int 1)))) (bT (e2 gEq (eCallL F__law_draw 0 0 (lCons eLend (lCons (eC (.int 2)) lNil))) (eC (.int 0)))))
    (sAsg 8 (eTup (lCons (eC (.int 0)) (lCons (e2 gIx (eVar 8) (eC (.int 1))) lNil))))
    sNil)
  (sSeq (sIf (bAnd (bT (e2 gEq (eVar 5) (eC (.int 2)))) (bT (e2 gEq (eCallL F__law_draw 0 0 (lCons eLend (lCons (eC (.int 2)) lNil))) (eC (.int 0)))))
    (sAsg 8 (eTup (lCons (e2 gIx (eVar 8) (eC (.int 0))) (lCons (e2 gSub (eVar 4) (eC (.int 1))) lNil))))
    sNil)
  (sSeq (sIf (bAnd (bT (e2 gEq (eVar 5) (eC (.int 3)))) (bAnd (bQT (q2 gNe (qVar 6) (qC (.list [])))) (bT (e2 gEq (eCallL F__law_draw 0 0 (lCons eLend (lCons (eC (.int 3)) lNil))) (eC (.int 0))))))
    (sAsg 8 (eCallL2 F__law_pick 0 0 1 6 (lCons eLend (lCons eLend lNil))))
    sNil)
  (sDrop (eApp 6 (eVar 8)))))))
def S__law_roster : Sf := (sSeq (sPar 3 4 (lCons (e2 gAdd (eC (.int 1)) (eCallL F__law_draw 0 0 (lCons eLend (lCons (eVar 1) lNil)))) (lCons (e2 gAdd (eC (.int 1)) (eCallL F__law_draw 0 0 (lCons eLend (lCons (eVar 1) lNil)))) lNil)))
  (sSeq (sPar 5 6 (lCons (eCallL F__law_draw 0 0 (lCons eLend (lCons (eC (.int 4)) lNil))) (lCons (eLst lNil) lNil)))
  (sSeq (sFor (iR1 (eCallL F__law_draw 0 0 (lCons eLend (lCons (e2 gAdd (eVar 2) (eC (.int 1))) lNil)))) (gNm 7)
    B__law_roster_1)
  (sRet (eTup (lCons (eVar 3) (lCons (eVar 4) (lCons (e1 gTuple (eVar 6)) lNil))))))))
def F__law_roster : DFn := runF S__law_roster [(.r [(.l .s), (.l .s), .s]), .s, .s] 6
/-- lessons_of: 0 roster, 1 side, 2 person, 3 place, 4 index, 5 lesson -/
def T_lessons_of_1 : Bf := (bT (e2 gEq (e2 gIx (eVar 5) (eVar 3)) (eVar 2)))
def E_lessons_of_1 : Ef := (eVar 4)
def S_lessons_of : Sf := (sSeq (sAsg 3 (eIf (bT (e2 gEq (eVar 1) (eC (.str "teacher")))) (eC (.int 0)) (eC (.int 1))))
  (sRet (eLc (iEn (e2 gIx (eVar 0) (eC (.int 2)))) [4, 5] (gTp 2 (gsCons (gNm 4) (gsCons (gNm 5) gsNil))) T_lessons_of_1 E_lessons_of_1)))
def F_lessons_of : DFn := runF S_lessons_of [.s, .s, .s] 3
/-- degrees: 0 roster, 1 by_teacher, 2 person -/
def E_degrees_1 : Ef := (e1 gLen (eCall F_lessons_of (lCons (eVar 0) (lCons (eC (.str "teacher")) (lCons (eVar 2) lNil)))))
def E_degrees_2 : Ef := (e1 gLen (eCall F_lessons_of (lCons (eVar 0) (lCons (eC (.str "group")) (lCons (eVar 2) lNil)))))
def S_degrees : Sf := (sSeq (sAsg 1 (e1 gTuple (eLc (iR1 (e2 gIx (eVar 0) (eC (.int 0)))) [2] (gNm 2) bYes E_degrees_1)))
  (sRet (eTup (lCons (eVar 1) (lCons (e1 gTuple (eLc (iR1 (e2 gIx (eVar 0) (eC (.int 1)))) [2] (gNm 2) bYes E_degrees_2)) lNil)))))
def F_degrees : DFn := runF S_degrees [.s] 2
/-- bounds_of: 0 roster, 1 by_teacher, 2 by_group, 3 teacher, 4 group -/
def E_bounds_of_1 : Ef := (e2 gMax2 (e2 gIx (eVar 1) (eVar 3)) (e2 gIx (eVar 2) (eVar 4)))
def S_bounds_of : Sf := (sSeq (sTg (eCall F_degrees (lCons (eVar 0) lNil)) (gTp 2 (gsCons (gNm 1) (gsCons (gNm 2) gsNil))))
  (sRet (e1 gTuple (eLc (iSeq (e2 gIx (eVar 0) (eC (.int 2)))) [3, 4] (gTp 2 (gsCons (gNm 3) (gsCons (gNm 4) gsNil))) bYes E_bounds_of_1))))
def F_bounds_of : DFn := runF S_bounds_of [.s] 4
/-- are_rivals: 0 roster, 1 one, 2 other, 3 first, 4 second -/
def S_are_rivals : Sf := (sSeq (sPar 3 4 (lCons (e2 gIx (e2 gIx (eVar 0) (eC (.int 2))) (eVar 1)) (lCons (e2 gIx (e2 gIx (eVar 0) (eC (.int 2))) (eVar 2)) lNil)))
  (sRet (eAnd (e2 gNe (eVar 1) (eVar 2)) (eOr (e2 gEq (e2 gIx (eVar 3) (eC (.int 0))) (e2 gIx (eVar 4) (eC (.int 0)))) (e2 gEq (e2 gIx (eVar 3) (eC (.int 1))) (e2 gIx (eVar 4) (eC (.int 1))))))))
def F_are_rivals : DFn := runF S_are_rivals [.s, .s, .s] 2
/-- rivals: 0 roster, 1 lesson, 2 other -/
def T_rivals_1 : Bf := (bOf (eCall F_are_rivals (lCons (eVar 0) (lCons (eVar 1) (lCons (eVar 2) lNil)))))
def E_rivals_1 : Ef := (eVar 2)
def S_rivals : Sf := (sRet (e1 gTuple (eLc (iR1 (e1 gLen (e2 gIx (eVar 0) (eC (.int 2))))) [2] (gNm 2) T_rivals_1 E_rivals_1)))
def F_rivals : DFn := runF S_rivals [.s, .s] 1
/-- _law_rivals_right: 0 _law_roster_here, 1 _law_bounds, 2 _law_found, 3 _law_lesson, 4 _law_row, 5 _law_other -/
def E__law_rivals_right_1 : Ef := (eCall F_rivals (lCons (eVar 0) (lCons (eVar 3) lNil)))
def T__law_rivals_right_1 : Bf := (bT (e2 gNotIn (eVar 3) (e2 gIx (eVar 2) (eVar 5))))
def E__law_rivals_right_2 : Ef := (eVar 5)
def B__law_rivals_right_1 : Sf := (sSeq (sIf (bOr (bT (e2 gGt (e1 gLen (eVar 4)) (e2 gSub (e2 gMul (eC (.int 2)) (e2 gIx (eVar 1) (eVar 3))) (eC (.int 2))))) (bT (e2 gLt (e1 gLen (eVar 4)) (e2 gSub (e2 gIx (eVar 1) (eVar 3)) (eC (.int 1))))))
    (sRet (eC (.bool false)))
    sNil)
  (sIf (bT (e2 gNe (eLc (iSeq (eVar 4)) [5] (gNm 5) T__law_rivals_right_1 E__law_rivals_right_2) (eLst lNil)))
    (sRet (eC (.bool false)))
    sNil))
def S__law_rivals_right : Sf := (sSeq (sAsg 1 (eCall F_bounds_of (lCons (eVar 0) lNil)))
  (sSeq (sAsg 2 (eLc (iR1 (e1 gLen (e2 gIx (eVar 0) (eC (.int 2))))) [3] (gNm 3) bYes E__law_rivals_right_1))
  (sSeq (sFor (iEn (eVar 2)) (gTp 2 (gsCons (gNm 3) (gsCons (gNm 4) gsNil)))
    B__law_rivals_right_1)
  (sRet (eC (.bool true))))))
def F__law_rivals_right : DFn := runF S__law_rivals_right [.s] 5
/-- _law_same: 0 _law_found, 1 _law_due -/
def S__law_same : Sf := (sRet (e2 gEq (e1 gRepr (eVar 0)) (e1 gRepr (eVar 1))))
def F__law_same : DFn := runF S__law_same [.s, .s] 0
/-- greatest_degree: 0 roster, 1 by_teacher, 2 by_group -/
def S_greatest_degree : Sf := (sSeq (sTg (eCall F_degrees (lCons (eVar 0) lNil)) (gTp 2 (gsCons (gNm 1) (gsCons (gNm 2) gsNil))))
  (sRet (e1 gMax (e2 gAdd (eVar 1) (eVar 2)))))
def F_greatest_degree : DFn := runF S_greatest_degree [.s] 2
/-- law: 0 _law_script, 1 _law_state_here, 2 _law_turn, 3 _law_roster_here, 4 _law_teachers, 5 _law_groups, 6 _law_lessons, 7 _law_first, 8 _law_second, 9 _law_lesson, 10 _law_more, 11 _law_raised, 12 _law_also, 13 _law_turned, 14 _law_k, 15 _law_one -/
def E_law_1 : Ef := (e2 gAdd (eVar 15) (e1 gInt (e2 gEq (eVar 14) (e2 gIx (eVar 9) (eC (.int 0))))))
def E_law_2 : Ef := (e2 gAdd (eVar 15) (e1 gInt (e2 gEq (eVar 14) (e2 gIx (eVar 9) (eC (.int 1))))))
def T_law_1 : Bf := (bNot (bT (eChain gLe gLe (eVar 15) (e2 gIx (eCall F_bounds_of (lCons (eVar 10) lNil)) (eVar 14)) (e2 gAdd (eVar 15) (eC (.int 1))))))
def E_law_3 : Ef := (eVar 14)
def E_law_4 : Ef := (e1 gBack (eVar 15))
def T_law_2 : Bf := (bT (e2 gNe (eCall F_rivals (lCons (eVar 13) (lCons (eVar 14) lNil))) (eCall F_rivals (lCons (eVar 3) (lCons (eVar 14) lNil)))))
def E_law_5 : Ef := (eVar 14)
def B_law_1 : Sf := (sSeq (sAsg 3 (eCallL F__law_roster 0 1 (lCons eLend (lCons (eC (.int 8)) (lCons (eC (.int 15)) lNil)))))
  (sSeq (sTg (eVar 3) (gTp 3 (gsCons (gNm 4) (gsCons (gNm 5) (gsCons (gNm 6) gsNil)))))
  (sSeq (sTg (eCall F_degrees (lCons (eVar 3) lNil)) (gTp 2 (gsCons (gNm 7) (gsCons (gNm 8) gsNil))))
  (sSeq (sIf (bOr (bT (e2 gNe (e1 gSum (eVar 7)) (e1 gLen (eVar 6)))) (bOr (bT (e2 gNe (e1 gSum (eVar 8)) (e1 gLen (eVar 6)))) (bNot (bOf (eCall F__law_rivals_right (lCons (eVar 3) lNil))))))
    (sRet (eC (.bool false)))
    sNil)
  (sSeq (sAsg 9 (eTup (lCons (eCallL F__law_draw 0 1 (lCons eLend (lCons (eVar 4) lNil))) (lCons (eCallL F__law_draw 0 1 (lCons eLend (lCons (eVar 5) lNil))) lNil))))
  (sSeq (sAsg 10 (eTup (lCons (eVar 4) (lCons (eVar 5) (lCons (e2 gAdd (eVar 6) (eTup (lCons (eVar 9) lNil))) lNil)))))
  (sSeq (sAsg 11 (eLc (iEn (eVar 7)) [14, 15] (gTp 2 (gsCons (gNm 14) (gsCons (gNm 15) gsNil))) bYes E_law_1))
  (sSeq (sAsg 12 (eLc (iEn (eVar 8)) [14, 15] (gTp 2 (gsCons (gNm 14) (gsCons (gNm 15) gsNil))) bYes E_law_2))
  (sSeq (sIf (bNot (bOf (eCall F__law_same (lCons (eCall F_degrees (lCons (eVar 10) lNil)) (lCons (eTup (lCons (e1 gTuple (eVar 11)) (lCons (e1 gTuple (eVar 12)) lNil))) lNil)))))
    (sRet (eC (.bool false)))
    sNil)
  (sSeq (sIf (bT (e2 gNe (eLc (iEn (eCall F_bounds_of (lCons (eVar 3) lNil))) [14, 15] (gTp 2 (gsCons (gNm 14) (gsCons (gNm 15) gsNil))) T_law_1 E_law_3) (eLst lNil)))
    (sRet (eC (.bool false)))
    sNil)
  (sSeq (sIf (bT (e2 gNotIn (e2 gSub (eCall F_greatest_degree (lCons (eVar 10) lNil)) (eCall F_greatest_degree (lCons (eVar 3) lNil))) (eTup (lCons (eC (.int 0)) (lCons (eC (.int 1)) lNil)))))
    (sRet (eC (.bool false)))
    sNil)
  (sSeq (sAsg 13 (eTup (lCons (eVar 5) (lCons (eVar 4) (lCons (e1 gTuple (eLc (iSeq (eVar 6)) [15] (gNm 15) bYes E_law_4)) lNil)))))
  (sSeq (sIf (bOr (bNot (bOf (eCall F__law_same (lCons (eCall F_degrees (lCons (eVar 13) lNil)) (lCons (eTup (lCons (eVar 8) (lCons (eVar 7) lNil))) lNil))))) (bT (e2 gNe (eCall F_bounds_of (lCons (eVar 13) lNil)) (eCall F_bounds_of (lCons (eVar 3) lNil)))))
    (sRet (eC (.bool false)))
    sNil)
  (sIf (bT (e2 gNe (eLc (iR1 (e1 gLen (eVar 6))) [14] (gNm 14) T_law_2 E_law_5) (eLst lNil)))
    (sRet (eC (.bool false)))
    sNil))))))))))))))
def S_law : Sf := (sSeq (sAsg 1 (eCallL F__law_state 0 0 (lCons eLend lNil)))
  (sSeq (sFor (iR1 (eC (.int 8))) (gNm 2)
    B_law_1)
  (sRet (eC (.bool true)))))
def F_law : DFn := runF S_law [.q] 15
end LK

namespace LK
open PySem L2 PySem.Spec DL
/-! ### the deck -/
def nums (xs : List Int) : List PyData := xs.map .int
def Deck (k : Nat) (d : PyData) : Prop := ∃ (as bs : List Int) (t : Int), d = .list [.list (nums as), .list (nums bs), .int t] ∧ (∀ a ∈ as, 0 ≤ a) ∧ as.length ≤ 63 ∧ bs ≠ [] ∧ 0 ≤ t ∧ t ≤ k
theorem Deck.mono {k k' : Nat} {d : PyData} (h : Deck k d) (l : k ≤ k') : Deck k' d := by
  obtain ⟨as, bs, t, h1, h2, h3, h4, h5, h6⟩ := h
  exact ⟨as, bs, t, h1, h2, h3, h4, h5, by omega⟩
def absI (i : Int) : Int := if i < 0 then -i else i
theorem deck_ok (ns : List Int) (h : ns.length ≤ 63) : ∃ d, F__law_state [.list (ns.map .int)] = some (d, [.list (ns.map .int)]) ∧ Deck 0 d := by
  have h1 : ∀ e : PyData, lcL [2] (gNm 2) bYes E__law_state_1 (ns.map .int) [e, .none, .none] = some (ns.map fun i => .int (absI i), [e, .none, .none]) := fun e => lcY .int _ _ fun a ha => ⟨_, _, rfl, rfl, rfl⟩
  have h2 : ∀ (xs : List Int) a b, lcL [2] (gNm 2) T__law_state_1 E__law_state_2 (nums xs) [a, b, .none] = some ((xs.filter fun i => decide ((10 : Int) ^ 18 ≤ i)).map .int, [a, b, .none]) := fun xs a b =>
    lcM .int (fun i => decide ((10 : Int) ^ 18 ≤ i)) .int xs fun i hi => by
      refine ⟨_, [a, b, .int i], rfl, ?_, ?_⟩
      · simp [T__law_state_1]
      · split
        · exact ⟨_, rfl, rfl⟩
        · rfl
  have e3 : (ns.map fun i => PyData.int (absI i)) = nums (ns.map absI) := by simp [nums]
  refine ⟨.list [.list (nums ((ns.map absI).filter fun i => decide ((10 : Int) ^ 18 ≤ i))), .list (nums (ns.map absI ++ [((nums (ns.map absI)).length : Int) + 7])), .int 0], ?_, _, _, _, rfl, fun a ha => ?_, ?_, by simp, by decide, by decide⟩
  · have hl : (ns.map absI).length + 1 ≤ sizeLine := le1000 (by rw [List.length_map]; omega)
    have hl2 : ns.length + 1 ≤ sizeLine := le1000 (by omega)
    simp [F__law_state, S__law_state, h1, e3, h2]
    simp [nums, hl2]
  · have := (List.mem_filter.mp ha).2
    have h := of_decide_eq_true this
    have : (0 : Int) ≤ 10 ^ 18 := by decide
    omega
  · refine Nat.le_trans (List.length_filter_le _ _) ?_
    rw [List.length_map]; exact h

theorem next_ok {k : Nat} {d : PyData} (hd : Deck k d) (hk : k ≤ 1000000000) (m : Int) (hm : 0 < m) (hm2 : m < 1073741824) : ∃ d' r, F__law_draw [d, .int m] = some (.int r, [d', .int m]) ∧ Deck (k + 1) d' ∧ 0 ≤ r ∧ r < m := by
  obtain ⟨as, bs, t, rfl, ha, hl, hb, ht, htk⟩ := hd
  -- the large cells
  have loop : ∀ (as : List Int) (n : Nat) (x : PyData), as.length < n → (∀ a ∈ as, 0 ≤ a) → as.length ≤ 63 →
      (∃ as' r x', whL W__law_draw_1 B__law_draw_1 n
        [.list [.list (nums as), .list (nums bs), .int t], .int m, x, .none, .none] = some (.rt (.int r), [.list [.list (nums as'), .list (nums bs), .int t], .int m, x', .none, .none]) ∧ (∀ a ∈ as', 0 ≤ a) ∧ as'.length ≤ 63 ∧ 0 ≤ r ∧ r < m) ∨
      (∃ x', whL W__law_draw_1 B__law_draw_1 n
        [.list [.list (nums as), .list (nums bs), .int t], .int m, x, .none, .none] = some (.nx, [.list [.list [], .list (nums bs), .int t], .int m, x', .none, .none])) := by
    intro as
    induction as with
    | nil =>
      intro n x hn _ _
      cases n with
      | zero => omega
      | succ n => exact .inr ⟨x, by unfold whL; simp [nums, W__law_draw_1]⟩
    | cons a as ih =>
      intro n x hn hp hl
      cases n with
      | zero => omega
      | succ n =>
        have h0 := hp a (List.mem_cons_self ..)
        by_cases hz : 0 < a
        · refine .inl ⟨(a / m) :: as, a % m, .int a, ?_, ?_, hl, Int.emod_nonneg _ (by omega), Int.emod_lt_of_pos _ hm⟩
          · unfold whL
            simp [nums, hz, hm, hm2, setD, W__law_draw_1, B__law_draw_1]
          · intro b hb
            rcases List.mem_cons.mp hb with z | z
            · rw [z]; exact Int.ediv_nonneg h0 (by omega)
            · exact hp b (List.mem_cons_of_mem _ z)
        · have ha0 : a = 0 := by omega
          subst ha0
          have := ih n (.int 0) (by simpa using hn) (fun b hb => hp b (List.mem_cons_of_mem _ hb)) (by simp at hl; omega)
          unfold whL
          simp [nums] at this
          simp [nums, setD, W__law_draw_1, B__law_draw_1]
          simp [W__law_draw_1, B__law_draw_1] at this
          exact this
  rcases loop as fuel .none (Nat.lt_of_le_of_lt hl (by decide)) ha hl with ⟨as', r, x', h1, h2, h3, h4, h5⟩ | ⟨x', h1⟩
  · refine ⟨_, r, ?_, ⟨as', bs, t, rfl, h2, h3, hb, ht, by omega⟩, h4, h5⟩
    simp [F__law_draw, S__law_draw, h1]
  · have hbl : 0 < bs.length := List.length_pos_iff.mpr hb
    have ix0 : 0 ≤ (t + 1) % (bs.length : Int) := Int.emod_nonneg _ (by omega)
    have ix1 : (t + 1) % (bs.length : Int) < bs.length := Int.emod_lt_of_pos _ (by omega)
    obtain ⟨c, _, _, hat'⟩ := at_map (f := PyData.int) ix0 ix1
    have hc0 : 0 ≤ c % 2147483629 := Int.emod_nonneg _ (by decide)
    have hc1 : c % 2147483629 < 2147483629 := Int.emod_lt_of_pos _ (by decide)
    have m1 : mulOk 2 (t + 1) = true := by unfold mulOk; simp
    have m2 : mulOk (c % 2147483629) (69621 + 2 * (t + 1)) = true := by
      unfold mulOk
      rw [decide_eq_true (show (c % 2147483629).natAbs < 2 ^ 64 by omega)]; rfl
    have m3 : mulOk 48271 (t + 1) = true := by unfold mulOk; simp
    have m4 : mulOk (48271 * (t + 1)) (t + 1) = true := by
      unfold mulOk
      rw [decide_eq_true (show (t + 1).natAbs < 2 ^ 64 by omega), Bool.or_true]
    generalize hw : (c % 2147483629 * (69621 + 2 * (t + 1)) + 30011 + 48271 * (t + 1) * (t + 1)) % 2147483587 = w
    have hw0 : 0 ≤ w := by rw [← hw]; exact Int.emod_nonneg _ (by decide)
    have hw1 : w < 2147483587 := by rw [← hw]; exact Int.emod_lt_of_pos _ (by decide)
    have m5 : mulOk w w = true := by
      unfold mulOk
      rw [decide_eq_true (show w.natAbs < 2 ^ 64 by omega)]; rfl
    refine ⟨.list [.list (nums []), .list (nums bs), .int (t + 1)], w * w % 2147483563 / 16 % m, ?_, ⟨[], bs, t + 1, rfl, fun a h => (by cases h), by simp, hb, by omega, by omega⟩, Int.emod_nonneg _ (by omega), Int.emod_lt_of_pos _ hm⟩
    simp only [nums] at h1
    simp [F__law_draw, S__law_draw, h1, nums, hbl, hat', m1, m2, m3, m4, hw, m5, hm, setD]
end LK

namespace LK
open PySem L2 PySem.Spec DL
/-! ### rosters -/
structure Ros where
  T : Int
  G : Int
  ls : List (Int × Int)
def les (p : Int × Int) : PyData := .tuple [.int p.1, .int p.2]
def rosD (R : Ros) : PyData := .tuple [.int R.T, .int R.G, .tuple (R.ls.map les)]
def LsOk (T G : Int) (ls : List (Int × Int)) : Prop := ∀ p ∈ ls, 0 ≤ p.1 ∧ p.1 < T ∧ 0 ≤ p.2 ∧ p.2 < G
structure RosOk (n m : Nat) (R : Ros) : Prop where
  T0 : 1 ≤ R.T
  T1 : R.T ≤ n
  G0 : 1 ≤ R.G
  G1 : R.G ≤ n
  len : R.ls.length ≤ m
  ok : LsOk R.T R.G R.ls
theorem LsOk.snoc {T G : Int} {ls : List (Int × Int)} (h : LsOk T G ls) {a b : Int} (ha : 0 ≤ a ∧ a < T ∧ 0 ≤ b ∧ b < G) : LsOk T G (ls ++ [(a, b)]) := fun p hp => by
  rcases List.mem_append.mp hp with z | z
  · exact h p z
  · rw [List.mem_singleton.mp z]; exact ha
theorem pick_ok {k : Nat} {d : PyData} (hd : Deck k d) (hk : k ≤ 1000000000) {α : Type} (f : α → PyData) (xs : List α) (hx : xs ≠ []) (hl : xs.length ≤ 1000) : ∃ d' a, a ∈ xs ∧ F__law_pick [d, .list (xs.map f)] = some (f a, [d', .list (xs.map f)]) ∧ Deck (k + 1) d' := by
  have h0 : 0 < xs.length := List.length_pos_iff.mpr hx
  obtain ⟨d1, r, h1, k1, r0, r1⟩ := next_ok hd hk (xs.length : Int) (by omega) (by omega)
  obtain ⟨a, _, ha, hat⟩ := at_map (f := f) r0 r1
  refine ⟨d1, a, ha, ?_, k1⟩
  simp [F__law_pick, S__law_pick, h1, hat]
def RInv (k0 : Nat) (P Q T G W : Int) (i : Nat) (e : En) : Prop := ∃ dk ls x y, e = [dk, .int P, .int Q, .int T, .int G, .int W, .list (ls.map les), x, y] ∧ Deck (k0 + 4 * i) dk ∧ ls.length = i ∧ LsOk T G ls
theorem ros_step {k0 : Nat} {P Q T G W : Int} (hT : 1 ≤ T) (hT1 : T ≤ 1000) (hG : 1 ≤ G) (hG1 : G ≤ 1000) {i : Nat} (hi : i ≤ 900) (hk : k0 ≤ 200000000) {e : En} (h : RInv k0 P Q T G W i e) :
    ∃ e1 e2, gNm 7 (.int (i : Nat)) e = some e1 ∧ (B__law_roster_1 e1 = some (.nx, e2) ∨ B__law_roster_1 e1 = some (.ct, e2)) ∧ RInv k0 P Q T G W (i + 1) e2 := by
  obtain ⟨dk, ls, x, y, rfl, dk0, hl, ok⟩ := h
  obtain ⟨d1, a, h1, k1, a0, a1⟩ := next_ok dk0 (by omega) T (by omega) (by omega)
  obtain ⟨d2, b, h2, k2, b0, b1⟩ := next_ok k1 (by omega) G (by omega) (by omega)
  obtain ⟨d3, c, h3, k3, c0, c1⟩ := next_ok k2 (by omega) 2 (by omega) (by omega)
  obtain ⟨d4, w, h4, k4, w0, w1⟩ := next_ok k2 (by omega) 3 (by omega) (by omega)
  have fin : ∀ (dd : PyData) (x y : Int), Deck (k0 + 4 * i + 4) dd → 0 ≤ x ∧ x < T ∧ 0 ≤ y ∧ y < G → RInv k0 P Q T G W (i + 1) [dd, .int P, .int Q, .int T, .int G, .int W, .list (ls.map les ++ [les (x, y)]), .int (i : Nat), les (x, y)] := fun dd x y kd hxy =>
    ⟨dd, ls ++ [(x, y)], .int (i : Nat), les (x, y), by simp, by rw [show k0 + 4 * (i + 1) = k0 + 4 * i + 4 by omega]; exact kd, by simp [hl], ok.snoc hxy⟩
  have hsz : ls.length < sizeLine := by rw [hl]; exact Nat.lt_of_le_of_lt hi (by decide)
  have plain : RInv k0 P Q T G W (i + 1) [d2, .int P, .int Q, .int T, .int G, .int W, .list (ls.map les ++ [les (a, b)]), .int (i : Nat), les (a, b)] := fin d2 a b (k2.mono (by omega)) ⟨a0, a1, b0, b1⟩
  by_cases w1 : W = 1
  · by_cases z : c = 0
    · refine ⟨_, _, rfl, .inl ?_, fin d3 0 b (k3.mono (by omega)) ⟨by omega, by omega, b0, b1⟩⟩
      simp [B__law_roster_1, h1, h2, h3, w1, hsz, z, les]
    · refine ⟨_, _, rfl, .inl ?_, fin d3 a b (k3.mono (by omega)) ⟨a0, a1, b0, b1⟩⟩
      simp [B__law_roster_1, h1, h2, h3, w1, hsz, z, les]
  · by_cases w2 : W = 2
    · by_cases z : c = 0
      · refine ⟨_, _, rfl, .inl ?_, fin d3 a (G - 1) (k3.mono (by omega)) ⟨a0, a1, by omega, by omega⟩⟩
        simp [B__law_roster_1, h1, h2, h3, w2, hsz, z, les]
      · refine ⟨_, _, rfl, .inl ?_, fin d3 a b (k3.mono (by omega)) ⟨a0, a1, b0, b1⟩⟩
        simp [B__law_roster_1, h1, h2, h3, w2, hsz, z, les]
    · by_cases w3 : W = 3
      · by_cases hn : ls = []
        · refine ⟨_, _, rfl, .inl ?_, plain⟩
          simp [B__law_roster_1, h1, h2, w3, hsz, les, hn]
          decide
        · have hn' : ls.isEmpty = false := by cases ls with | nil => exact absurd rfl hn | cons _ _ => rfl
          by_cases z : w = 0
          · obtain ⟨d5, l, hl5, h5, k5⟩ := pick_ok k4 (by omega) les ls hn (by omega)
            refine ⟨_, _, rfl, .inl ?_, fin d5 l.1 l.2 (k5.mono (by omega)) (ok l hl5)⟩
            simp [B__law_roster_1, h1, h2, h4, w3, hsz, hn', z, h5]
          · refine ⟨_, _, rfl, .inl ?_, fin d4 a b (k4.mono (by omega)) ⟨a0, a1, b0, b1⟩⟩
            simp [B__law_roster_1, h1, h2, h4, w3, hsz, hn', z, les]
      · refine ⟨_, _, rfl, .inl ?_, plain⟩
        simp [B__law_roster_1, h1, h2, w1, w2, w3, hsz, les]
theorem roster_ok {k : Nat} {d : PyData} (hd : Deck k d) (hk : k ≤ 100000000) (P Q : Nat) (hP : 1 ≤ P) (hP1 : P ≤ 1000) (hQ : Q ≤ 900) :
    ∃ d' R, F__law_roster [d, .int P, .int Q] = some (rosD R, [d', .int P, .int Q]) ∧ Deck (k + 4 + 4 * Q) d' ∧ RosOk P Q R := by
  obtain ⟨d1, a, h1, k1, a0, a1⟩ := next_ok hd (by omega) P (by omega) (by omega)
  obtain ⟨d2, b, h2, k2, b0, b1⟩ := next_ok k1 (by omega) P (by omega) (by omega)
  obtain ⟨d3, w, h3, k3, w0, w1⟩ := next_ok k2 (by omega) 4 (by omega) (by omega)
  obtain ⟨d4, c, h4, k4, c0, c1⟩ := next_ok k3 (by omega) ((Q : Int) + 1) (by omega) (by omega)
  have r0 := rng1_ok c0 (by omega)
  obtain ⟨e', h5, dk, ls, x, y, rfl, dk1, hl, ok⟩ := for_inv (gf := gNm 7) (sf := B__law_roster_1) (fun i : Nat => PyData.int (i : Nat)) (RInv (k + 4) P Q (1 + a) (1 + b) w) (List.range c.toNat) 0
    [d4, .int P, .int Q, .int (1 + a), .int (1 + b), .int w, .list [], .none, .none] ⟨d4, [], _, _, rfl, k4, rfl, fun p h => by cases h⟩ fun i j e hj h => by
      obtain ⟨hij, rfl⟩ := List.getElem?_eq_some_iff.mp hj
      rw [List.length_range] at hij
      rw [List.getElem_range]
      rw [Nat.zero_add] at h ⊢
      exact ros_step (by omega) (by omega) (by omega) (by omega) (by omega) (by omega) h
  rw [List.length_range, Nat.zero_add] at dk1 hl
  refine ⟨dk, ⟨1 + a, 1 + b, ls⟩, ?_, dk1.mono (by omega), ⟨by show 1 ≤ 1 + a; omega, by show 1 + a ≤ (P : Int); omega, by show 1 ≤ 1 + b; omega, by show 1 + b ≤ (P : Int); omega, by show ls.length ≤ Q; omega, ok⟩⟩
  simp [F__law_roster, S__law_roster, h1, h2, h3, h4, r0, h5, rosD]
end LK

namespace LK
open PySem L2 PySem.Spec DL
/-! ### degrees -/
def prt01 (s : Bool) (p : Int × Int) : Int := if s = true then p.2 else p.1
def dg (R : Ros) (s : Bool) (p : Int) : Int := ((R.ls.filter fun l => decide (prt01 s l = p)).length : Nat)
theorem at_les (s : Bool) (l : Int × Int) : atI [PyData.int l.1, PyData.int l.2] (if s = true then 1 else 0) = some (.int (prt01 s l)) := by cases s <;> simp [prt01]
def sideS (s : Bool) : Str := if s = true then "group" else "teacher"
theorem lessons_ok (R : Ros) (s : Bool) (p : Int) : ∃ xs, F_lessons_of [rosD R, .str (sideS s), .int p] = some (.list xs, [rosD R, .str (sideS s), .int p]) ∧ (xs.length : Int) = dg R s p := by
  have hs : (sideS s == ("teacher" : Str)) = !s := by cases s <;> decide
  have h : ∀ a b c : PyData, lcL [4, 5] (gTp 2 (gsCons (gNm 4) (gsCons (gNm 5) gsNil))) T_lessons_of_1 E_lessons_of_1 ((R.ls.zipIdx 0).map fun q => .tuple [.int (q.2 : Nat), les q.1]) [rosD R, a, .int p, .int (if s = true then 1 else 0), b, c] =
      some (((R.ls.zipIdx 0).filter fun q => decide (prt01 s q.1 = p)).map fun q => .int (q.2 : Nat), [rosD R, a, .int p, .int (if s = true then 1 else 0), b, c]) := fun a b c =>
    lcM (fun q : (Int × Int) × Nat => .tuple [.int (q.2 : Nat), les q.1]) (fun q : (Int × Int) × Nat => decide (prt01 s q.1 = p)) (fun q : (Int × Int) × Nat => .int (q.2 : Nat)) (R.ls.zipIdx 0) fun q hq => by
      refine ⟨[rosD R, a, .int p, .int (if s = true then 1 else 0), .int (q.2 : Nat), les q.1], [rosD R, a, .int p, .int (if s = true then 1 else 0), .int (q.2 : Nat), les q.1], by simp, by simp [T_lessons_of_1, les, at_les], ?_⟩
      split
      · exact ⟨_, rfl, rfl⟩
      · rfl
  refine ⟨((R.ls.zipIdx 0).filter fun q => decide (prt01 s q.1 = p)).map fun q => .int (q.2 : Nat), ?_, ?_⟩
  · have e : rosD R = .tuple [.int R.T, .int R.G, .tuple (R.ls.map les)] := rfl
    have h' := h (.str (sideS s)) .none .none
    rw [e] at h' ⊢
    cases s
    · simp at h'
      simp [F_lessons_of, S_lessons_of, hs, enum_map, h']
    · simp at h'
      simp [F_lessons_of, S_lessons_of, hs, enum_map, h']
  · rw [List.length_map, filter_idx (fun l => decide (prt01 s l = p))]; rfl
def dgs (R : Ros) (s : Bool) : List Int := (List.range (if s = true then R.G else R.T).toNat).map fun i => dg R s (i : Nat)
theorem degrees_ok (R : Ros) (hT : 0 ≤ R.T ∧ R.T ≤ 1000) (hG : 0 ≤ R.G ∧ R.G ≤ 1000) : F_degrees [rosD R] = some (.tuple [.tuple ((dgs R false).map .int), .tuple ((dgs R true).map .int)], [rosD R]) := by
  have h1 : ∀ a b : PyData, lcL [2] (gNm 2) bYes E_degrees_1 ((List.range R.T.toNat).map fun i => .int (i : Nat)) [rosD R, a, b] = some ((List.range R.T.toNat).map fun i => .int (dg R false (i : Nat)), [rosD R, a, b]) := fun a b =>
    lcY (fun i : Nat => .int (i : Nat)) (fun i : Nat => .int (dg R false (i : Nat))) _ fun i hi => by
      obtain ⟨xs, h, hl⟩ := lessons_ok R false (i : Nat)
      exact ⟨_, [rosD R, a, .int (i : Nat)], rfl, by simp [sideS] at h; simp [E_degrees_1, h, hl], rfl⟩
  have h2 : ∀ a b : PyData, lcL [2] (gNm 2) bYes E_degrees_2 ((List.range R.G.toNat).map fun i => .int (i : Nat)) [rosD R, a, b] = some ((List.range R.G.toNat).map fun i => .int (dg R true (i : Nat)), [rosD R, a, b]) := fun a b =>
    lcY (fun i : Nat => .int (i : Nat)) (fun i : Nat => .int (dg R true (i : Nat))) _ fun i hi => by
      obtain ⟨xs, h, hl⟩ := lessons_ok R true (i : Nat)
      exact ⟨_, [rosD R, a, .int (i : Nat)], rfl, by simp [sideS] at h; simp [E_degrees_2, h, hl], rfl⟩
  have e : rosD R = .tuple [.int R.T, .int R.G, .tuple (R.ls.map les)] := rfl
  have r1 := rngN hT.1 hT.2
  have r2 := rngN hG.1 hG.2
  rw [e] at h1 h2 ⊢
  simp [F_degrees, S_degrees, r1, r2, h1, h2, dgs]
def most (R : Ros) : Int := maxs (dgs R false ++ dgs R true)
theorem greatest_ok (R : Ros) (hT : 1 ≤ R.T ∧ R.T ≤ 1000) (hG : 1 ≤ R.G ∧ R.G ≤ 1000) : F_greatest_degree [rosD R] = some (.int (most R), [rosD R]) := by
  have h := degrees_ok R ⟨by omega, hT.2⟩ ⟨by omega, hG.2⟩
  have hne : dgs R false ++ dgs R true ≠ [] := by
    unfold dgs
    intro z
    have := congrArg List.length z
    simp at this
    omega
  have hl : (dgs R false).length + (dgs R true).length ≤ sizeLine := by
    refine Nat.le_trans (m := 2000) ?_ (by decide)
    simp [dgs]; omega
  have hm := xMaxT' hne
  rw [List.map_append] at hm
  simp [F_greatest_degree, S_greatest_degree, h, hl, hm, most]
end LK

namespace LK
open PySem L2 PySem.Spec DL
/-! ### bounds, the law's counts -/
def bd (R : Ros) (l : Int × Int) : Int := if dg R true l.2 > dg R false l.1 then dg R true l.2 else dg R false l.1
theorem at_dgs {R : Ros} {s : Bool} {p : Int} (h0 : 0 ≤ p) (h1 : p < if s = true then R.G else R.T) : atI ((dgs R s).map PyData.int) p = some (.int (dg R s p)) := by
  have hl : p < ((dgs R s).length : Nat) := by unfold dgs; rw [List.length_map, List.length_range]; omega
  obtain ⟨a, h2, _, h3⟩ := at_map (f := PyData.int) h0 hl
  rw [h3]
  unfold dgs at h2
  rw [List.getElem?_map, List.getElem?_range (by omega)] at h2
  have e : a = dg R s ((p.toNat : Nat) : Int) := (Option.some.inj h2).symm
  rw [e, show ((p.toNat : Nat) : Int) = p by omega]
theorem bounds_ok (R : Ros) (hT : 0 ≤ R.T ∧ R.T ≤ 1000) (hG : 0 ≤ R.G ∧ R.G ≤ 1000) (ok : LsOk R.T R.G R.ls) : F_bounds_of [rosD R] = some (.tuple ((R.ls.map (bd R)).map .int), [rosD R]) := by
  have h1 := degrees_ok R hT hG
  have h2 : lcL [3, 4] (gTp 2 (gsCons (gNm 3) (gsCons (gNm 4) gsNil))) bYes E_bounds_of_1 (R.ls.map les) [rosD R, .tuple ((dgs R false).map .int), .tuple ((dgs R true).map .int), .none, .none] =
      some (R.ls.map fun l => .int (bd R l), [rosD R, .tuple ((dgs R false).map .int), .tuple ((dgs R true).map .int), .none, .none]) :=
    lcY les (fun l => .int (bd R l)) R.ls fun l hl => by
      obtain ⟨a0, a1, b0, b1⟩ := ok l hl
      have e1 := at_dgs (R := R) (s := false) a0 (by simpa using a1)
      have e2 := at_dgs (R := R) (s := true) b0 (by simpa using b1)
      refine ⟨[rosD R, .tuple ((dgs R false).map .int), .tuple ((dgs R true).map .int), .int l.1, .int l.2], [rosD R, .tuple ((dgs R false).map .int), .tuple ((dgs R true).map .int), .int l.1, .int l.2], by simp [les], ?_, rfl⟩
      simp [E_bounds_of_1, e1, e2, gMax2, bd]
  have e : rosD R = .tuple [.int R.T, .int R.G, .tuple (R.ls.map les)] := rfl
  rw [e] at h1 h2 ⊢
  simp [F_bounds_of, S_bounds_of, h1, h2, List.map_map]
/-! ### what is shown -/
theorem dg_le (R : Ros) (s : Bool) (p : Int) : 0 ≤ dg R s p ∧ dg R s p ≤ R.ls.length := by
  unfold dg
  have := List.length_filter_le (fun l => decide (prt01 s l = p)) R.ls
  omega

/-! ### counting -/
theorem cnt_or {α : Type} (p q : α → Bool) (xs : List α) : xs.countP (fun x => p x || q x) + xs.countP (fun x => p x && q x) = xs.countP p + xs.countP q := by
  induction xs with
  | nil => rfl
  | cons x xs ih =>
    simp only [List.countP_cons]
    cases p x <;> cases q x <;> simp <;> omega
theorem cnt_one (n i : Nat) (h : i < n) : (List.range n).countP (fun j => decide (j = i)) = 1 := by
  induction n with
  | zero => omega
  | succ n ih =>
    rw [List.range_succ, List.countP_append, List.countP_singleton]
    by_cases e : i = n
    · subst e
      have : (List.range i).countP (fun j => decide (j = i)) = 0 := List.countP_eq_zero.mpr fun a ha => by
        have := List.mem_range.mp ha
        simp; omega
      rw [this]; simp
    · rw [ih (by omega)]
      have : ¬ n = i := fun z => e z.symm
      simp [this]
theorem cnt_but (n i : Nat) (r : Nat → Bool) (h : i < n) (hr : r i = true) : (List.range n).countP (fun j => decide (i ≠ j) && r j) + 1 = (List.range n).countP r := by
  have h1 := cnt_or (fun j => decide (i ≠ j) && r j) (fun j => decide (j = i)) (List.range n)
  rw [cnt_one n i h] at h1
  have e1 : (fun j : Nat => (decide (i ≠ j) && r j) && decide (j = i)) = fun _ => false := by
    funext j
    by_cases z : j = i
    · subst z; simp
    · simp [z]
  have e2 : (fun j : Nat => (decide (i ≠ j) && r j) || decide (j = i)) = r := by
    funext j
    by_cases z : j = i
    · subst z; simp [hr]
    · have : i ≠ j := fun y => z y.symm
      simp [z, this]
  have z0 : (List.range n).countP (fun _ => false) = 0 := List.countP_eq_zero.mpr (by simp)
  rw [e1, e2, z0] at h1
  omega
/-! ### rivals -/
def ln (R : Ros) (j : Nat) : Int × Int := R.ls.getD j (0, 0)
theorem ls_ln (R : Ros) : R.ls = (List.range R.ls.length).map (ln R) := by
  apply List.ext_getElem?
  intro i
  by_cases h : i < R.ls.length
  · rw [List.getElem?_map, List.getElem?_range h, List.getElem?_eq_getElem h]
    show some _ = some (R.ls.getD i (0, 0))
    rw [List.getD_eq_getElem?_getD, List.getElem?_eq_getElem h]; rfl
  · rw [List.getElem?_eq_none (by omega), List.getElem?_eq_none (by simp; omega)]
theorem dg_cnt (R : Ros) (s : Bool) (p : Int) : dg R s p = ((List.range R.ls.length).countP fun j => decide (prt01 s (ln R j) = p) : Nat) := by
  unfold dg
  rw [← List.countP_eq_length_filter]
  conv => lhs; rw [ls_ln R]
  rw [List.countP_map]; rfl
def sh (R : Ros) (i j : Nat) : Bool := decide (prt01 false (ln R i) = prt01 false (ln R j)) || decide (prt01 true (ln R i) = prt01 true (ln R j))
def riv (R : Ros) (i : Nat) : List Nat := (List.range R.ls.length).filter fun j => decide (i ≠ j) && sh R i j
theorem riv_len (R : Ros) (i : Nat) (h : i < R.ls.length) : ((riv R i).length : Int) ≤ 2 * bd R (ln R i) - 2 ∧ bd R (ln R i) - 1 ≤ (riv R i).length := by
  have e : (riv R i).length = (List.range R.ls.length).countP fun j => decide (i ≠ j) && sh R i j := by unfold riv; rw [List.countP_eq_length_filter]
  have b := cnt_but R.ls.length i (sh R i) h (by simp [sh])
  have o := cnt_or (fun j => decide (prt01 false (ln R i) = prt01 false (ln R j))) (fun j => decide (prt01 true (ln R i) = prt01 true (ln R j))) (List.range R.ls.length)
  have s1 : (fun j : Nat => decide (prt01 false (ln R i) = prt01 false (ln R j))) = fun j => decide (prt01 false (ln R j) = prt01 false (ln R i)) := by funext j; congr 1; exact propext eq_comm
  have s2 : (fun j : Nat => decide (prt01 true (ln R i) = prt01 true (ln R j))) = fun j => decide (prt01 true (ln R j) = prt01 true (ln R i)) := by funext j; congr 1; exact propext eq_comm
  have d1 := dg_cnt R false (prt01 false (ln R i))
  have d2 := dg_cnt R true (prt01 true (ln R i))
  have m1 : (List.range R.ls.length).countP (fun j => decide (prt01 false (ln R i) = prt01 false (ln R j))) ≤ (List.range R.ls.length).countP (sh R i) := List.countP_mono_left fun j _ hj => by simp [sh, hj]
  have m2 : (List.range R.ls.length).countP (fun j => decide (prt01 true (ln R i) = prt01 true (ln R j))) ≤ (List.range R.ls.length).countP (sh R i) := List.countP_mono_left fun j _ hj => by simp [sh, hj]
  have p1 : 1 ≤ (List.range R.ls.length).countP (fun j => decide (prt01 false (ln R i) = prt01 false (ln R j)) && decide (prt01 true (ln R i) = prt01 true (ln R j))) := List.countP_pos_iff.mpr ⟨i, List.mem_range.mpr h, by simp⟩
  have os : (List.range R.ls.length).countP (fun j => decide (prt01 false (ln R i) = prt01 false (ln R j)) || decide (prt01 true (ln R i) = prt01 true (ln R j))) = (List.range R.ls.length).countP (sh R i) := rfl
  rw [← s1] at d1
  rw [← s2] at d2
  have t1 : prt01 false (ln R i) = (ln R i).1 := rfl
  have t2 : prt01 true (ln R i) = (ln R i).2 := rfl
  unfold bd
  rw [← t1, ← t2, d1, d2, e]
  split <;> omega
theorem riv_sym (R : Ros) {i j : Nat} (hi : i < R.ls.length) (h : j ∈ riv R i) : i ∈ riv R j := by
  unfold riv at h ⊢
  obtain ⟨h1, h2⟩ := List.mem_filter.mp h
  refine List.mem_filter.mpr ⟨List.mem_range.mpr hi, ?_⟩
  simp only [Bool.and_eq_true, decide_eq_true_eq, sh, Bool.or_eq_true] at h2 ⊢
  exact ⟨fun z => h2.1 z.symm, h2.2.imp Eq.symm Eq.symm⟩
theorem at_ls (R : Ros) {i : Nat} (h : i < R.ls.length) : atI (R.ls.map les) ((i : Nat) : Int) = some (les (ln R i)) := by
  refine atI_nat ?_
  rw [List.getElem?_map, List.getElem?_eq_getElem h]
  unfold ln
  rw [List.getD_eq_getElem?_getD, List.getElem?_eq_getElem h]; rfl
theorem are_run {a b : PyData} {xs : List PyData} {i j : Int} {p q : Int × Int} (h1 : atI xs i = some (les p)) (h2 : atI xs j = some (les q)) : F_are_rivals [.tuple [a, b, .tuple xs], .int i, .int j] =
    some (.bool (!decide (i = j) && (decide (p.1 = q.1) || decide (p.2 = q.2))), [.tuple [a, b, .tuple xs], .int i, .int j]) := by
  by_cases z : i = j
  · simp [F_are_rivals, S_are_rivals, h1, h2, z]
  · by_cases y : p.1 = q.1
    · simp [F_are_rivals, S_are_rivals, h1, h2, les, z, y]
    · simp [F_are_rivals, S_are_rivals, h1, h2, les, z, y]
theorem are_ok (R : Ros) {i j : Nat} (hi : i < R.ls.length) (hj : j < R.ls.length) : F_are_rivals [rosD R, .int (i : Nat), .int (j : Nat)] = some (.bool (decide (i ≠ j) && sh R i j), [rosD R, .int (i : Nat), .int (j : Nat)]) := by
  have h := are_run (a := .int R.T) (b := .int R.G) (at_ls R hi) (at_ls R hj)
  have e : (!decide (((i : Nat) : Int) = (j : Nat)) && (decide ((ln R i).1 = (ln R j).1) || decide ((ln R i).2 = (ln R j).2))) = (decide (i ≠ j) && sh R i j) := by
    by_cases z : i = j
    · subst z; simp
    · have : ¬ ((i : Nat) : Int) = (j : Nat) := by omega
      rw [decide_eq_false this, decide_eq_true (show i ≠ j from z)]; rfl
  rw [e] at h
  exact h
def nat1 (i : Nat) : PyData := .int (i : Nat)
end LK

namespace LK
open PySem L2 PySem.Spec DL
theorem riv_lc (R : Ros) {i : Nat} (hi : i < R.ls.length) : lcL [2] (gNm 2) T_rivals_1 E_rivals_1 ((List.range R.ls.length).map fun j => PyData.int (j : Nat)) [rosD R, .int (i : Nat), .none] = some (((List.range R.ls.length).filter fun j => decide (i ≠ j) && sh R i j).map nat1, [rosD R, .int (i : Nat), .none]) :=
  lcM (fun j : Nat => PyData.int (j : Nat)) (fun j => decide (i ≠ j) && sh R i j) nat1 _ fun j hj => by
    have := are_ok R hi (List.mem_range.mp hj)
    refine ⟨[rosD R, .int (i : Nat), .int (j : Nat)], [rosD R, .int (i : Nat), .int (j : Nat)], rfl, ?_, ?_⟩
    · show (eCall F_are_rivals (lCons (eVar 0) (lCons (eVar 1) (lCons (eVar 2) lNil))) [rosD R, .int (i : Nat), .int (j : Nat)]).bind _ = _
      simp only [rCall, rlCons, rVar, rlNil, Option.bind_some, rgd0, rgdS]
      rw [this]; rfl
    · split
      · exact ⟨[rosD R, .int (i : Nat), .int (j : Nat)], rfl, rfl⟩
      · rfl
theorem rng_len (R : Ros) (hl : R.ls.length ≤ 1000) : rng1 (.int ((R.ls.length : Nat) : Int)) = some ((List.range R.ls.length).map fun i => PyData.int (i : Nat)) := by
  have h := rng1_ok (n := ((R.ls.length : Nat) : Int)) (Int.natCast_nonneg _) (by omega)
  rw [Int.toNat_natCast] at h
  exact h
theorem riv_it (R : Ros) (hl : R.ls.length ≤ 1000) (a b : PyData) : iR1 (DL.e1 gLen (DL.e2 gIx (eVar 0) (eC (.int 2)))) [rosD R, a, b] = some ((List.range R.ls.length).map fun i => PyData.int (i : Nat), [rosD R, a, b]) := by
  have e : rosD R = .tuple [.int R.T, .int R.G, .tuple (R.ls.map les)] := rfl
  rw [e]
  simp [rng_len R hl]
end LK

namespace LK
open PySem L2 PySem.Spec DL
theorem rivals_ok (R : Ros) (hl : R.ls.length ≤ 1000) {i : Nat} (hi : i < R.ls.length) : F_rivals [rosD R, .int (i : Nat)] = some (.tuple ((riv R i).map nat1), [rosD R, .int (i : Nat)]) := by
  have h : lcL [2] (gNm 2) T_rivals_1 E_rivals_1 ((List.range R.ls.length).map fun j => PyData.int (j : Nat)) [rosD R, .int (i : Nat), .none] = some ((riv R i).map nat1, [rosD R, .int (i : Nat), .none]) := riv_lc R hi
  have e : rosD R = .tuple [.int R.T, .int R.G, .tuple (R.ls.map les)] := rfl
  have r := rng_len R hl
  rw [e] at h ⊢
  simp [F_rivals, S_rivals, r, h]
/-! ### sums -/
theorem sum_add (f g : Nat → Int) : ∀ xs : List Nat, (xs.map fun i => f i + g i).sum = (xs.map f).sum + (xs.map g).sum
  | [] => rfl
  | x :: xs => by
    rw [List.map_cons, List.map_cons, List.map_cons, List.sum_cons, List.sum_cons, List.sum_cons, sum_add f g xs]
    omega
theorem sum_zero : ∀ xs : List Nat, (xs.map fun _ => (0 : Int)).sum = 0
  | [] => rfl
  | x :: xs => by rw [List.map_cons, List.sum_cons, sum_zero xs]; rfl
theorem sum_one : ∀ (m : Nat) (x : Int), 0 ≤ x → x < m → ((List.range m).map fun i => if x = (i : Nat) then (1 : Int) else 0).sum = 1
  | 0, x, h0, h1 => by omega
  | m + 1, x, h0, h1 => by
    rw [List.range_succ, List.map_append, List.sum_append]
    by_cases z : x = (m : Nat)
    · have : ((List.range m).map fun i : Nat => if x = (i : Nat) then (1 : Int) else 0) = (List.range m).map fun _ => (0 : Int) := List.map_congr_left fun i hi => by
        have := List.mem_range.mp hi
        rw [if_neg (by omega)]
      rw [this, sum_zero]
      simp [z]
    · rw [sum_one m x h0 (by omega)]
      simp [z]
theorem sum_cnt (s : Bool) (m : Nat) : ∀ ls : List (Int × Int), (∀ l ∈ ls, 0 ≤ prt01 s l ∧ prt01 s l < m) → ((List.range m).map fun i : Nat => (((ls.filter fun l => decide (prt01 s l = (i : Nat))).length : Nat) : Int)).sum = ls.length
  | [], _ => by
    have := sum_zero (List.range m)
    simpa using this
  | l :: ls, h => by
    have ih := sum_cnt s m ls fun x hx => h x (List.mem_cons_of_mem _ hx)
    have h0 := h l (List.mem_cons_self ..)
    have e : (fun i : Nat => ((((l :: ls).filter fun l => decide (prt01 s l = (i : Nat))).length : Nat) : Int)) = fun i : Nat => (if prt01 s l = (i : Nat) then (1 : Int) else 0) + (((ls.filter fun l => decide (prt01 s l = (i : Nat))).length : Nat) : Int) := by
      funext i
      rw [List.filter_cons]
      by_cases z : prt01 s l = (i : Nat)
      · simp [z]; omega
      · simp [z]
    rw [e, sum_add, sum_one m _ h0.1 h0.2, ih, List.length_cons]
    omega
theorem sum_dgs (R : Ros) (s : Bool) (hT : 0 ≤ R.T) (hG : 0 ≤ R.G) (ok : LsOk R.T R.G R.ls) : (dgs R s).sum = R.ls.length := by
  unfold dgs
  refine sum_cnt s _ R.ls fun l hl => ?_
  obtain ⟨a0, a1, b0, b1⟩ := ok l hl
  cases s
  · exact ⟨a0, by show l.1 < _; simp; omega⟩
  · exact ⟨b0, by show l.2 < _; simp; omega⟩
theorem intsOf_map : ∀ ns : List Int, intsOf (ns.map .int) = some ns
  | [] => rfl
  | n :: ns => by
    show (intsOf (ns.map .int)).map (n :: ·) = _
    rw [intsOf_map ns]; rfl
theorem xSumT {ns : List Int} : gSum (.tuple (ns.map .int)) = some (.int ns.sum) := by
  show (intsOf (ns.map .int)).map _ = _
  rw [intsOf_map]; rfl
/-! ### sizes -/
theorem rp_ints {ns : List Int} (h : ∀ n ∈ ns, 0 ≤ n ∧ n ≤ 1000) (hl : ns.length ≤ 16) : Rp 1 400 (.tuple (ns.map .int)) := by
  refine (rp_tup (n := 0) (s := 20) fun x hx => ?_).mono (by decide) (by rw [List.length_map]; omega)
  obtain ⟨n, hn, rfl⟩ := List.mem_map.mp hx
  have := h n hn
  exact rp_int (by omega)
theorem dgs_le {R : Ros} (ok : RosOk 8 16 R) (s : Bool) : (∀ n ∈ dgs R s, 0 ≤ n ∧ n ≤ 1000) ∧ (dgs R s).length ≤ 16 := by
  have t1 := ok.T1; have g1 := ok.G1; have hl := ok.len
  refine ⟨fun n hn => ?_, ?_⟩
  · obtain ⟨i, _, rfl⟩ := List.mem_map.mp hn
    have := dg_le R s (i : Nat)
    omega
  · unfold dgs
    rw [List.length_map, List.length_range]
    split <;> omega
theorem dgs_ne (R : Ros) (hT : 1 ≤ R.T) : dgs R false ++ dgs R true ≠ [] := by
  unfold dgs
  intro z
  have := congrArg List.length z
  simp at this
  omega
theorem most_le {R : Ros} (ok : RosOk 8 16 R) : 0 ≤ most R ∧ most R ≤ 1000 := by
  have := maxs_mem (dgs_ne R ok.T0)
  rcases List.mem_append.mp this with h | h
  · exact (dgs_le ok false).1 _ h
  · exact (dgs_le ok true).1 _ h
/-! ### one lesson more; the sides exchanged -/
def add1 (R : Ros) (l : Int × Int) : Ros := ⟨R.T, R.G, R.ls ++ [l]⟩
def flip (R : Ros) : Ros := ⟨R.G, R.T, R.ls.map fun l => (l.2, l.1)⟩
theorem dg_add (R : Ros) (l : Int × Int) (s : Bool) (p : Int) : dg (add1 R l) s p = dg R s p + if prt01 s l = p then 1 else 0 := by
  unfold dg add1
  rw [List.filter_append, List.length_append]
  by_cases z : prt01 s l = p <;> simp [z]
theorem dg_flip (R : Ros) (s : Bool) (p : Int) : dg (flip R) s p = dg R (!s) p := by
  unfold dg flip
  rw [List.filter_map, List.length_map]
  cases s <;> rfl
theorem dgs_flip (R : Ros) (s : Bool) : dgs (flip R) s = dgs R (!s) := by
  unfold dgs
  have : (if s = true then (flip R).G else (flip R).T) = if (!s) = true then R.G else R.T := by cases s <;> rfl
  rw [this]
  exact List.map_congr_left fun i _ => dg_flip R s _
theorem bd_flip (R : Ros) (l : Int × Int) : bd (flip R) (l.2, l.1) = bd R l := by
  unfold bd
  rw [dg_flip, dg_flip]
  show (if dg R false l.1 > dg R true l.2 then dg R false l.1 else dg R true l.2) = _
  split <;> split <;> omega
theorem bd_add (R : Ros) (l k : Int × Int) : bd R k ≤ bd (add1 R l) k ∧ bd (add1 R l) k ≤ bd R k + 1 := by
  unfold bd
  rw [dg_add, dg_add]
  split <;> split <;> split <;> split <;> omega
theorem most_add (R : Ros) (l : Int × Int) (hT : 1 ≤ R.T) : most R ≤ most (add1 R l) ∧ most (add1 R l) ≤ most R + 1 := by
  have e : ∀ s, dgs (add1 R l) s = (List.range (if s = true then R.G else R.T).toNat).map fun i => dg R s (i : Nat) + if prt01 s l = (i : Nat) then 1 else 0 := fun s => List.map_congr_left fun i _ => dg_add R l s _
  constructor
  · have hm := maxs_mem (dgs_ne R hT)
    have key : ∀ s, maxs (dgs R false ++ dgs R true) ∈ dgs R s → most R ≤ most (add1 R l) := fun s h => by
      obtain ⟨i, hi, hv⟩ := List.mem_map.mp h
      have hin : dg R s (i : Nat) + (if prt01 s l = (i : Nat) then 1 else 0) ∈ dgs (add1 R l) false ++ dgs (add1 R l) true := by
        have : dg R s (i : Nat) + (if prt01 s l = (i : Nat) then 1 else 0) ∈ dgs (add1 R l) s := by rw [e s]; exact List.mem_map.mpr ⟨i, hi, rfl⟩
        cases s
        · exact List.mem_append_left _ this
        · exact List.mem_append_right _ this
      have := maxs_ge hin
      have hv' : dg R s (i : Nat) = most R := hv
      show most R ≤ maxs _
      split at this <;> omega
    rcases List.mem_append.mp hm with h | h
    · exact key false h
    · exact key true h
  · have hm := maxs_mem (dgs_ne (add1 R l) hT)
    have key : ∀ s, maxs (dgs (add1 R l) false ++ dgs (add1 R l) true) ∈ dgs (add1 R l) s → most (add1 R l) ≤ most R + 1 := fun s h => by
      rw [e s] at h
      obtain ⟨i, hi, hv⟩ := List.mem_map.mp h
      have hin : dg R s (i : Nat) ∈ dgs R false ++ dgs R true := by
        have : dg R s (i : Nat) ∈ dgs R s := List.mem_map.mpr ⟨i, hi, rfl⟩
        cases s
        · exact List.mem_append_left _ this
        · exact List.mem_append_right _ this
      have a := maxs_ge hin
      have hv' : dg R s (i : Nat) + (if prt01 s l = (i : Nat) then 1 else 0) = most (add1 R l) := hv
      have a' : dg R s (i : Nat) ≤ most R := a
      split at hv' <;> omega
    rcases List.mem_append.mp hm with h | h
    · exact key false h
    · exact key true h
theorem ln_flip (R : Ros) (j : Nat) : ln (flip R) j = ((ln R j).2, (ln R j).1) := by
  unfold ln flip
  rw [List.getD_eq_getElem?_getD, List.getD_eq_getElem?_getD, List.getElem?_map]
  cases R.ls[j]? <;> rfl
theorem riv_flip (R : Ros) (i : Nat) : riv (flip R) i = riv R i := by
  unfold riv
  have hl : (flip R).ls.length = R.ls.length := List.length_map ..
  rw [hl]
  refine List.filter_congr fun j _ => ?_
  unfold sh
  rw [ln_flip, ln_flip]
  show (decide (i ≠ j) && (decide ((ln R i).2 = (ln R j).2) || decide ((ln R i).1 = (ln R j).1))) = _
  rw [Bool.or_comm]; rfl
end LK

namespace LK
open PySem L2 PySem.Spec DL
/-! ### rivals are right -/
theorem any_nat (i : Nat) : ∀ xs : List Nat, (xs.map nat1).any (fun y => PyData.eqv y (.int (i : Nat))) = decide (i ∈ xs)
  | [] => rfl
  | x :: xs => by
    rw [List.map_cons, List.any_cons, any_nat i xs]
    show (PyData.eqv (.int (x : Nat)) (.int (i : Nat)) || _) = _
    rw [eqv_int]
    by_cases h : i = x
    · subst h; simp
    · have : ¬ ((x : Nat) : Int) = (i : Nat) := by omega
      simp [h, this]
theorem xNotInT {i : Nat} {xs : List Nat} : gNotIn (.int (i : Nat)) (.tuple (xs.map nat1)) = some (.bool (!decide (i ∈ xs))) := by
  show (if decide (min (PyData.depthAll (xs.map nat1)) (PyData.int (i : Nat)).depth ≤ 60) = true then _ else _) = _
  have h0 : min (PyData.depthAll (xs.map nat1)) (PyData.int (i : Nat)).depth ≤ 60 := Nat.le_trans (Nat.min_le_right _ _) (by show 0 ≤ 60; decide)
  rw [if_pos (decide_eq_true h0), any_nat]
def rowD (R : Ros) (i : Nat) : PyData := .tuple ((riv R i).map nat1)
def RRInv (R : Ros) (e : En) : Prop := ∃ x y z, e = [rosD R, .tuple ((R.ls.map (bd R)).map .int), .list ((List.range R.ls.length).map (rowD R)), x, y, z]
theorem bd_at (R : Ros) {i : Nat} (h : i < R.ls.length) : atI ((R.ls.map (bd R)).map PyData.int) ((i : Nat) : Int) = some (.int (bd R (ln R i))) := by
  refine atI_nat ?_
  rw [List.getElem?_map, List.getElem?_map, List.getElem?_eq_getElem h]
  unfold ln
  rw [List.getD_eq_getElem?_getD, List.getElem?_eq_getElem h]; rfl
theorem row_at (R : Ros) {i : Nat} (h : i < R.ls.length) : atI ((List.range R.ls.length).map (rowD R)) ((i : Nat) : Int) = some (rowD R i) := by
  refine atI_nat ?_
  rw [List.getElem?_map, List.getElem?_range h]; rfl
theorem riv_mem (R : Ros) {i j : Nat} (h : j ∈ riv R i) : j < R.ls.length := List.mem_range.mp (List.mem_filter.mp h).1
theorem rr_step (R : Ros) {i : Nat} (hi : i < R.ls.length) {e : En} (h : RRInv R e) : ∃ e1 e2, gTp 2 (gsCons (gNm 3) (gsCons (gNm 4) gsNil)) (.tuple [.int (i : Nat), rowD R i]) e = some e1 ∧ (B__law_rivals_right_1 e1 = some (.nx, e2) ∨ B__law_rivals_right_1 e1 = some (.ct, e2)) ∧ RRInv R e2 := by
  obtain ⟨x, y, z, rfl⟩ := h
  have hb := bd_at R hi
  have hl := riv_len R i hi
  have lc : ∀ a b : PyData, lcL [5] (gNm 5) T__law_rivals_right_1 E__law_rivals_right_2 ((riv R i).map nat1) [a, b, .list ((List.range R.ls.length).map (rowD R)), .int (i : Nat), rowD R i, z] = some ([], [a, b, .list ((List.range R.ls.length).map (rowD R)), .int (i : Nat), rowD R i, z]) := fun a b => by
    have := lcM (vs := [5]) (gf := gNm 5) (tf := T__law_rivals_right_1) (ef := E__law_rivals_right_2) (e := [a, b, .list ((List.range R.ls.length).map (rowD R)), .int (i : Nat), rowD R i, z]) nat1 (fun _ => false) nat1 (riv R i) fun j hj => by
      have hr := row_at R (riv_mem R hj)
      have hs := riv_sym R hi hj
      have hn : gNotIn (.int (i : Nat)) (rowD R j) = some (.bool false) := by
        show gNotIn (.int (i : Nat)) (.tuple ((riv R j).map nat1)) = _
        rw [xNotInT, decide_eq_true hs]; rfl
      refine ⟨_, [a, b, .list ((List.range R.ls.length).map (rowD R)), .int (i : Nat), rowD R i, nat1 j], rfl, ?_, ?_⟩
      · simp [T__law_rivals_right_1, nat1, hr, hn]
      · rfl
    rw [this]
    simp
  have m2 : mulOk 2 (bd R (ln R i)) = true := by unfold mulOk; simp
  refine ⟨_, [rosD R, .tuple ((R.ls.map (bd R)).map .int), .list ((List.range R.ls.length).map (rowD R)), .int (i : Nat), rowD R i, z], rfl, .inl ?_, _, _, _, rfl⟩
  have er : rowD R i = .tuple ((riv R i).map nat1) := rfl
  have c1 : ¬ (2 * bd R (ln R i) - 2 < ((riv R i).length : Nat)) := by omega
  have c2 : ¬ (((riv R i).length : Nat) < bd R (ln R i) - 1) := by omega
  rw [er] at lc ⊢
  simp [-List.map_map, B__law_rivals_right_1, hb, lc, m2, c1, c2]
theorem rr_ok (R : Ros) (hT : 0 ≤ R.T ∧ R.T ≤ 1000) (hG : 0 ≤ R.G ∧ R.G ≤ 1000) (ok : LsOk R.T R.G R.ls) (hl : R.ls.length ≤ 1000) : F__law_rivals_right [rosD R] = some (.bool true, [rosD R]) := by
  have h1 := bounds_ok R hT hG ok
  have h2 : ∀ a b c d : PyData, lcL [3] (gNm 3) bYes E__law_rivals_right_1 ((List.range R.ls.length).map fun j => PyData.int (j : Nat)) [rosD R, a, b, .none, c, d] = some ((List.range R.ls.length).map (rowD R), [rosD R, a, b, .none, c, d]) := fun a b c d =>
    lcY (fun j : Nat => PyData.int (j : Nat)) (rowD R) _ fun j hj => by
      have := rivals_ok R hl (List.mem_range.mp hj)
      exact ⟨_, [rosD R, a, b, .int (j : Nat), c, d], rfl, by simp [E__law_rivals_right_1, this, rowD], rfl⟩
  have en : enumD 0 ((List.range R.ls.length).map (rowD R)) = (List.range R.ls.length).map fun i => .tuple [.int (i : Nat), rowD R i] := by
    rw [enum_map]
    apply List.ext_getElem?
    intro i
    rw [List.getElem?_map, List.getElem?_map, List.getElem?_zipIdx]
    by_cases h : i < R.ls.length
    · rw [List.getElem?_range h]; simp
    · rw [List.getElem?_eq_none (by simp; omega)]; rfl
  obtain ⟨e', h3, x, y, z, he⟩ := for_inv (gf := gTp 2 (gsCons (gNm 3) (gsCons (gNm 4) gsNil))) (sf := B__law_rivals_right_1) (fun i : Nat => PyData.tuple [.int (i : Nat), rowD R i]) (fun _ => RRInv R) (List.range R.ls.length) 0
    [rosD R, .tuple ((R.ls.map (bd R)).map .int), .list ((List.range R.ls.length).map (rowD R)), .none, .none, .none] ⟨_, _, _, rfl⟩ fun i j e hj h => by
      obtain ⟨hij, rfl⟩ := List.getElem?_eq_some_iff.mp hj
      rw [List.length_range] at hij
      rw [List.getElem_range]
      exact rr_step R hij h
  subst he
  have e : rosD R = .tuple [.int R.T, .int R.G, .tuple (R.ls.map les)] := rfl
  have r := rng_len R hl
  rw [e] at h1 h2 h3 ⊢
  simp [-List.map_map, F__law_rivals_right, S__law_rivals_right, h1, r, h2, en, h3]
end LK

namespace LK
open PySem L2 PySem.Spec DL
/-! ### pieces of the law's turn -/
theorem plain_ints : ∀ ns : List Int, PyData.plainAll (ns.map .int) = true
  | [] => by simp [PyData.plainAll]
  | n :: ns => by rw [List.map_cons]; simp [PyData.plainAll, PyData.plain, plain_ints ns]
theorem xNeSelf (ns : List Int) : gNe (.tuple (ns.map .int)) (.tuple (ns.map .int)) = some (.bool false) := by
  have hd : (PyData.tuple (ns.map .int)).depth ≤ 60 := by
    have := depth_ints ns
    unfold PyData.depth; omega
  have he : PyData.eqv (.tuple (ns.map .int)) (.tuple (ns.map .int)) = true := PySem.SeqAt.eqv_refl_plain _ (by unfold PyData.plain; exact plain_ints ns)
  unfold gNe
  rw [dep_l hd, if_pos rfl, he]; rfl
theorem enum_rng (f : Nat → PyData) (n : Nat) : enumD 0 ((List.range n).map f) = (List.range n).map fun i => .tuple [.int (i : Nat), f i] := by
  rw [enum_map]
  apply List.ext_getElem?
  intro i
  rw [List.getElem?_map, List.getElem?_map, List.getElem?_zipIdx]
  by_cases h : i < n
  · rw [List.getElem?_range h]; simp
  · rw [List.getElem?_eq_none (by simp; omega)]; rfl
theorem enum_dgs (R : Ros) (s : Bool) : enumD 0 ((dgs R s).map .int) = (List.range (if s = true then R.G else R.T).toNat).map fun i => .tuple [.int (i : Nat), .int (dg R s (i : Nat))] := by
  unfold dgs
  rw [List.map_map]
  exact enum_rng _ _
theorem ln_add (R : Ros) (l : Int × Int) {k : Nat} (h : k < R.ls.length) : ln (add1 R l) k = ln R k := by
  unfold ln add1
  rw [List.getD_eq_getElem?_getD, List.getD_eq_getElem?_getD, List.getElem?_append_left h]
theorem enum_bds (R : Ros) : enumD 0 ((R.ls.map (bd R)).map .int) = (List.range R.ls.length).map fun i => .tuple [.int (i : Nat), .int (bd R (ln R i))] := by
  have : (R.ls.map (bd R)).map PyData.int = (List.range R.ls.length).map fun i => .int (bd R (ln R i)) := by
    conv => lhs; rw [ls_ln R]
    rw [List.map_map, List.map_map]; rfl
  rw [this]
  exact enum_rng _ _
theorem lsOk_add {R : Ros} (ok : LsOk R.T R.G R.ls) {l : Int × Int} (h : 0 ≤ l.1 ∧ l.1 < R.T ∧ 0 ≤ l.2 ∧ l.2 < R.G) : LsOk (add1 R l).T (add1 R l).G (add1 R l).ls := by
  show LsOk R.T R.G (R.ls ++ [l])
  exact ok.snoc (a := l.1) (b := l.2) h
theorem lsOk_flip {R : Ros} (ok : LsOk R.T R.G R.ls) : LsOk (flip R).T (flip R).G (flip R).ls := fun p hp => by
  obtain ⟨l, hl, rfl⟩ := List.mem_map.mp hp
  obtain ⟨a0, a1, b0, b1⟩ := ok l hl
  exact ⟨b0, b1, a0, a1⟩
theorem bds_flip (R : Ros) : (flip R).ls.map (bd (flip R)) = R.ls.map (bd R) := by
  show (R.ls.map fun l => (l.2, l.1)).map (bd (flip R)) = _
  rw [List.map_map]
  exact List.map_congr_left fun l _ => bd_flip R l
def pairD (R : Ros) : PyData := .tuple [.tuple ((dgs R false).map .int), .tuple ((dgs R true).map .int)]
theorem rp_pair {R : Ros} (ok : RosOk 8 16 R) : Rp 2 1000 (pairD R) := by
  refine (rp_tup (n := 1) (s := 400) (xs := [.tuple ((dgs R false).map .int), .tuple ((dgs R true).map .int)]) fun x hx => ?_).mono (by decide) (by simp)
  rcases List.mem_cons.mp hx with rfl | hx
  · exact rp_ints (dgs_le ok false).1 (dgs_le ok false).2
  · rw [List.mem_singleton.mp hx]; exact rp_ints (dgs_le ok true).1 (dgs_le ok true).2
theorem same_pair {R : Ros} (ok : RosOk 8 16 R) : F__law_same [pairD R, pairD R] = some (.bool true, [pairD R, pairD R]) := by
  have := gRepr_ok (rp_pair ok) (by decide) (by decide)
  simp [F__law_same, S__law_same, this]
theorem nat1_int (xs : List Nat) : xs.map nat1 = (xs.map fun i => ((i : Nat) : Int)).map .int := by rw [List.map_map]; rfl
theorem xNotIn01 {i : Int} (h : i = 0 ∨ i = 1) : gNotIn (.int i) (.tuple [.int 0, .int 1]) = some (.bool false) := by
  rcases h with rfl | rfl <;> rfl
/-- one more at a place -/
theorem lc_raise (R : Ros) (l : Int × Int) (a b c d f g h j k m n o p q r : PyData) : lcL [14, 15] (gTp 2 (gsCons (gNm 14) (gsCons (gNm 15) gsNil))) bYes E_law_1 (enumD 0 ((dgs R false).map .int)) [a, b, c, d, f, g, h, j, k, les l, m, n, o, p, q, r] = some ((dgs (add1 R l) false).map .int, [a, b, c, d, f, g, h, j, k, les l, m, n, o, p, q, r]) := by
  rw [enum_dgs]
  have := lcY (vs := [14, 15]) (gf := gTp 2 (gsCons (gNm 14) (gsCons (gNm 15) gsNil))) (ef := E_law_1) (e := [a, b, c, d, f, g, h, j, k, les l, m, n, o, p, q, r]) (fun i : Nat => PyData.tuple [.int (i : Nat), .int (dg R false (i : Nat))]) (fun i : Nat => .int (dg (add1 R l) false (i : Nat))) (List.range (if false = true then R.G else R.T).toNat) fun i hi => by
    refine ⟨[a, b, c, d, f, g, h, j, k, les l, m, n, o, p, .int (i : Nat), .int (dg R false (i : Nat))], [a, b, c, d, f, g, h, j, k, les l, m, n, o, p, .int (i : Nat), .int (dg R false (i : Nat))], by simp, ?_, rfl⟩
    rw [dg_add]
    by_cases z : l.1 = (i : Nat)
    · simp [E_law_1, les, gInt, prt01, z]
    · have z' : ¬ ((i : Nat) : Int) = l.1 := fun y => z y.symm
      simp [E_law_1, les, gInt, prt01, z, z']
  rw [this]
  show some ((List.range R.T.toNat).map _, _) = some (((List.range R.T.toNat).map _).map _, _)
  rw [List.map_map]; rfl
theorem lc_also (R : Ros) (l : Int × Int) (a b c d f g h j k m n o p q r : PyData) : lcL [14, 15] (gTp 2 (gsCons (gNm 14) (gsCons (gNm 15) gsNil))) bYes E_law_2 (enumD 0 ((dgs R true).map .int)) [a, b, c, d, f, g, h, j, k, les l, m, n, o, p, q, r] = some ((dgs (add1 R l) true).map .int, [a, b, c, d, f, g, h, j, k, les l, m, n, o, p, q, r]) := by
  rw [enum_dgs]
  have := lcY (vs := [14, 15]) (gf := gTp 2 (gsCons (gNm 14) (gsCons (gNm 15) gsNil))) (ef := E_law_2) (e := [a, b, c, d, f, g, h, j, k, les l, m, n, o, p, q, r]) (fun i : Nat => PyData.tuple [.int (i : Nat), .int (dg R true (i : Nat))]) (fun i : Nat => .int (dg (add1 R l) true (i : Nat))) (List.range (if true = true then R.G else R.T).toNat) fun i hi => by
    refine ⟨[a, b, c, d, f, g, h, j, k, les l, m, n, o, p, .int (i : Nat), .int (dg R true (i : Nat))], [a, b, c, d, f, g, h, j, k, les l, m, n, o, p, .int (i : Nat), .int (dg R true (i : Nat))], by simp, ?_, rfl⟩
    rw [dg_add]
    by_cases z : l.2 = (i : Nat)
    · simp [E_law_2, les, gInt, prt01, z]
    · have z' : ¬ ((i : Nat) : Int) = l.2 := fun y => z y.symm
      simp [E_law_2, les, gInt, prt01, z, z']
  rw [this]
  show some ((List.range R.G.toNat).map _, _) = some (((List.range R.G.toNat).map _).map _, _)
  rw [List.map_map]; rfl
end LK

namespace LK
open PySem L2 PySem.Spec DL
/-! ### the law -/
theorem lc_bd (R : Ros) (l : Int × Int) (h1 : F_bounds_of [rosD (add1 R l)] = some (.tuple (((add1 R l).ls.map (bd (add1 R l))).map .int), [rosD (add1 R l)])) (a b c d f g h j k m n o p q r : PyData) :
    lcL [14, 15] (gTp 2 (gsCons (gNm 14) (gsCons (gNm 15) gsNil))) T_law_1 E_law_3 (enumD 0 ((R.ls.map (bd R)).map .int)) [a, b, c, d, f, g, h, j, k, m, rosD (add1 R l), n, o, p, q, r] = some ([], [a, b, c, d, f, g, h, j, k, m, rosD (add1 R l), n, o, p, q, r]) := by
  rw [enum_bds]
  have := lcM (vs := [14, 15]) (gf := gTp 2 (gsCons (gNm 14) (gsCons (gNm 15) gsNil))) (tf := T_law_1) (ef := E_law_3) (e := [a, b, c, d, f, g, h, j, k, m, rosD (add1 R l), n, o, p, q, r]) (fun i : Nat => PyData.tuple [.int (i : Nat), .int (bd R (ln R i))]) (fun _ => false) (fun i : Nat => nat1 i) (List.range R.ls.length) fun i hi => by
    have hi := List.mem_range.mp hi
    have hb := bd_at (add1 R l) (i := i) (by show i < (R.ls ++ [l]).length; rw [List.length_append]; omega)
    rw [ln_add R l hi] at hb
    have c := bd_add R l (ln R i)
    refine ⟨[a, b, _, d, f, g, h, j, k, m, rosD (add1 R l), n, o, p, .int (i : Nat), .int (bd R (ln R i))], [a, b, _, d, f, g, h, j, k, m, rosD (add1 R l), n, o, p, .int (i : Nat), .int (bd R (ln R i))], by simp; rfl, ?_, rfl⟩
    simp [-List.map_map, T_law_1, h1, hb, c.1, c.2]
  rw [this]
  simp
theorem lc_rv (R : Ros) (hl : R.ls.length ≤ 1000) (a b c f g h j k m n o p q r : PyData) : lcL [14] (gNm 14) T_law_2 E_law_5 ((List.range R.ls.length).map fun i => PyData.int (i : Nat)) [a, b, c, rosD R, f, g, h, j, k, m, n, o, p, rosD (flip R), q, r] = some ([], [a, b, c, rosD R, f, g, h, j, k, m, n, o, p, rosD (flip R), q, r]) := by
  have := lcM (vs := [14]) (gf := gNm 14) (tf := T_law_2) (ef := E_law_5) (e := [a, b, c, rosD R, f, g, h, j, k, m, n, o, p, rosD (flip R), q, r]) (fun i : Nat => PyData.int (i : Nat)) (fun _ => false) (fun i : Nat => nat1 i) (List.range R.ls.length) fun i hi => by
    have hi := List.mem_range.mp hi
    have h1 := rivals_ok R hl hi
    have hf : (flip R).ls.length = R.ls.length := List.length_map ..
    have h2 := rivals_ok (flip R) (by rw [hf]; exact hl) (i := i) (by rw [hf]; exact hi)
    rw [riv_flip] at h2
    have hn := xNeSelf ((riv R i).map fun i => ((i : Nat) : Int))
    rw [← nat1_int] at hn
    refine ⟨_, [a, b, c, rosD R, f, g, h, j, k, m, n, o, p, rosD (flip R), .int (i : Nat), r], rfl, ?_, rfl⟩
    simp [T_law_2, h1, h2, hn]
  rw [this]
  simp
theorem lc_swap (R : Ros) (a b c d f g h j k m n o p q r s : PyData) : lcL [15] (gNm 15) bYes E_law_4 (R.ls.map les) [a, b, c, d, f, g, h, j, k, m, n, o, p, q, r, s] = some ((flip R).ls.map les, [a, b, c, d, f, g, h, j, k, m, n, o, p, q, r, s]) := by
  have := lcY (vs := [15]) (gf := gNm 15) (ef := E_law_4) (e := [a, b, c, d, f, g, h, j, k, m, n, o, p, q, r, s]) les (fun l => les (l.2, l.1)) R.ls fun l hl => ⟨_, [a, b, c, d, f, g, h, j, k, m, n, o, p, q, r, les l], rfl, by simp [E_law_4, les], rfl⟩
  rw [this]
  show _ = some ((R.ls.map fun l => (l.2, l.1)).map les, _)
  rw [List.map_map]; rfl
def LInv (ns : List Int) (i : Nat) (e : En) : Prop := ∃ dk a b c d f g h j k l m n o p, e = [.list (ns.map .int), dk, a, b, c, d, f, g, h, j, k, l, m, n, o, p] ∧ Deck (1000 * i) dk
theorem turn_ok (ns : List Int) {i : Nat} (hi : i < 8) {e : En} (h : LInv ns i e) : ∃ e1 e2, gNm 2 (.int (i : Nat)) e = some e1 ∧ (B_law_1 e1 = some (.nx, e2) ∨ B_law_1 e1 = some (.ct, e2)) ∧ LInv ns (i + 1) e2 := by
  obtain ⟨dk, x2, x3, x4, x5, x6, x7, x8, x9, x10, x11, x12, x13, x14, x15, rfl, k0⟩ := h
  obtain ⟨d1, R, h1, k1, ok⟩ := roster_ok k0 (by omega) 8 15 (by decide) (by decide) (by decide)
  have h1' : F__law_roster [dk, .int 8, .int 15] = some (rosD R, [d1, .int 8, .int 15]) := h1
  have t := ok.T0; have t1 := ok.T1; have g0 := ok.G0; have g1 := ok.G1; have hl := ok.len
  obtain ⟨d2, a, h2, k2, a0, a1⟩ := next_ok k1 (by omega) R.T (by omega) (by omega)
  obtain ⟨d3, b, h3, k3, b0, b1⟩ := next_ok k2 (by omega) R.G (by omega) (by omega)
  have okA : RosOk 8 16 (add1 R (a, b)) := ⟨t, t1, g0, g1, by show (R.ls ++ [(a, b)]).length ≤ 16; simp; omega, lsOk_add ok.ok ⟨a0, a1, b0, b1⟩⟩
  have okF : RosOk 8 16 (flip R) := ⟨g0, g1, t, t1, by show (R.ls.map _).length ≤ 16; rw [List.length_map]; omega, lsOk_flip ok.ok⟩
  have q1 := degrees_ok R ⟨by omega, by omega⟩ ⟨by omega, by omega⟩
  have qA := degrees_ok (add1 R (a, b)) ⟨by show 0 ≤ R.T; omega, by show R.T ≤ 1000; omega⟩ ⟨by show 0 ≤ R.G; omega, by show R.G ≤ 1000; omega⟩
  have qF := degrees_ok (flip R) ⟨by show 0 ≤ R.G; omega, by show R.G ≤ 1000; omega⟩ ⟨by show 0 ≤ R.T; omega, by show R.T ≤ 1000; omega⟩
  have bR := bounds_ok R ⟨by omega, by omega⟩ ⟨by omega, by omega⟩ ok.ok
  have bA := bounds_ok (add1 R (a, b)) ⟨by show 0 ≤ R.T; omega, by show R.T ≤ 1000; omega⟩ ⟨by show 0 ≤ R.G; omega, by show R.G ≤ 1000; omega⟩ okA.ok
  have bF := bounds_ok (flip R) ⟨by show 0 ≤ R.G; omega, by show R.G ≤ 1000; omega⟩ ⟨by show 0 ≤ R.T; omega, by show R.T ≤ 1000; omega⟩ okF.ok
  have mR := greatest_ok R ⟨t, by omega⟩ ⟨g0, by omega⟩
  have mA := greatest_ok (add1 R (a, b)) ⟨t, by show R.T ≤ 1000; omega⟩ ⟨g0, by show R.G ≤ 1000; omega⟩
  have md := most_add R (a, b) t
  have mn := xNotIn01 (i := most (add1 R (a, b)) - most R) (by omega)
  have rr := rr_ok R ⟨by omega, by omega⟩ ⟨by omega, by omega⟩ ok.ok (by omega)
  have s1 := sum_dgs R false (by omega) (by omega) ok.ok
  have s2 := sum_dgs R true (by omega) (by omega) ok.ok
  have sA := same_pair okA
  have sF := same_pair okF
  have lr := fun m n o p q r => lc_raise R (a, b) (.list (ns.map .int)) d3 (.int (i : Nat)) (rosD R) (.int R.T) (.int R.G) (.tuple (R.ls.map les)) (.tuple ((dgs R false).map .int)) (.tuple ((dgs R true).map .int)) m n o p q r
  have la := fun m n o p q r => lc_also R (a, b) (.list (ns.map .int)) d3 (.int (i : Nat)) (rosD R) (.int R.T) (.int R.G) (.tuple (R.ls.map les)) (.tuple ((dgs R false).map .int)) (.tuple ((dgs R true).map .int)) m n o p q r
  have lb := lc_bd R (a, b) bA
  have lv := lc_rv R (by omega)
  have lw := lc_swap R
  have rl := rng_len R (by omega)
  have nb := xNeSelf (R.ls.map (bd R))
  rw [bds_flip] at bF
  have e : rosD R = .tuple [.int R.T, .int R.G, .tuple (R.ls.map les)] := rfl
  have eA : rosD (add1 R (a, b)) = .tuple [.int R.T, .int R.G, .tuple (R.ls.map les ++ [.tuple [.int a, .int b]])] := by
    show PyData.tuple [.int R.T, .int R.G, .tuple ((R.ls ++ [(a, b)]).map les)] = _
    rw [List.map_append]; rfl
  have eF : rosD (flip R) = .tuple [.int R.G, .int R.T, .tuple ((flip R).ls.map les)] := rfl
  rw [dgs_flip, dgs_flip] at qF
  unfold pairD at sA sF
  rw [dgs_flip, dgs_flip] at sF
  have el : les (a, b) = .tuple [.int a, .int b] := rfl
  have hz : R.ls.length + 1 ≤ sizeLine := le1000 (by omega)
  rw [e] at h1' q1 bR mR rr lr la lv
  rw [eA] at qA bA mA lb
  rw [eF] at qF bF lv
  simp only [el] at lr la
  simp only [Bool.not_false, Bool.not_true] at qF sF
  refine ⟨_, [.list (ns.map .int), d3, .int (i : Nat), .tuple [.int R.T, .int R.G, .tuple (R.ls.map les)], .int R.T, .int R.G, .tuple (R.ls.map les), .tuple ((dgs R false).map .int), .tuple ((dgs R true).map .int), .tuple [.int a, .int b], .tuple [.int R.T, .int R.G, .tuple (R.ls.map les ++ [.tuple [.int a, .int b]])], .list ((dgs (add1 R (a, b)) false).map .int), .list ((dgs (add1 R (a, b)) true).map .int), .tuple [.int R.G, .int R.T, .tuple ((flip R).ls.map les)], x14, x15], rfl, .inl ?_, d3, _, _, _, _, _, _, _, _, _, _, _, _, _, _, rfl, k3.mono (by omega)⟩
  simp [-List.map_map, B_law_1, h1', q1, xSumT, s1, s2, rr, h2, h3, hz, lr, la, qA, sA, bR, lb, mA, mR, mn, lw, qF, sF, bF, nb, rl, lv]
theorem law_true (ns : List Int) (h : ns.length ≤ 63) : ∃ fs, F_law [.list (ns.map .int)] = some (.bool true, fs) := by
  obtain ⟨d, h1, k0⟩ := deck_ok ns h
  obtain ⟨e', h2, _⟩ := for_inv (gf := gNm 2) (sf := B_law_1) (fun i : Nat => PyData.int (i : Nat)) (LInv ns) (List.range 8) 0 [.list (ns.map .int), d, .none, .none, .none, .none, .none, .none, .none, .none, .none, .none, .none, .none, .none, .none] ⟨d, _, _, _, _, _, _, _, _, _, _, _, _, _, _, rfl, k0⟩ fun i j e hj h => by
    obtain ⟨hij, rfl⟩ := List.getElem?_eq_some_iff.mp hj
    rw [List.length_range] at hij
    rw [List.getElem_range]
    rw [Nat.zero_add] at h ⊢
    exact turn_ok ns hij h
  have r := rngN (n := 8) (by decide) (by decide)
  rw [show (8 : Int).toNat = 8 from rfl] at r
  exact ⟨_, by simp [F_law, S_law, h1, r, h2]; rfl⟩
end LK

namespace LK
open PySem L2 PySem.Spec PyProof.Rows DL
/-! ### the text -/
def topS (i : Nat) : Stmt := PySem.Challenge.pw_listedges_k09_whole_degrees_add_up.main.body.getD i (.Pass ⟨0, 0, 0, 0⟩)
abbrev st__law_state : Stmt := topS 8
theorem sc__law_state : FnScope ["_law_script", "_law_cells", "_law_cell"] ["_law_script"] (defScope st__law_state) := ⟨rfl, rfl, rfl, by decide +kernel, rfl, by decide +kernel, by decide +kernel⟩
abbrev st__law_draw : Stmt := topS 9
theorem sc__law_draw : FnScope ["_law_state_here", "_law_limit", "_law_rest", "_law_cell", "_law_mixed"] ["_law_state_here", "_law_limit"] (defScope st__law_draw) := ⟨rfl, rfl, rfl, by decide +kernel, rfl, by decide +kernel, by decide +kernel⟩
abbrev st__law_pick : Stmt := topS 10
theorem sc__law_pick : FnScope ["_law_state_here", "_law_items"] ["_law_state_here", "_law_items"] (defScope st__law_pick) := ⟨rfl, rfl, rfl, by decide +kernel, rfl, by decide +kernel, by decide +kernel⟩
abbrev st__law_roster : Stmt := topS 11
theorem sc__law_roster : FnScope ["_law_state_here", "_law_people", "_law_most", "_law_teachers", "_law_groups", "_law_kind", "_law_lessons", "_law_k", "_law_lesson"] ["_law_state_here", "_law_people", "_law_most"] (defScope st__law_roster) := ⟨rfl, rfl, rfl, by decide +kernel, rfl, by decide +kernel, by decide +kernel⟩
abbrev st_lessons_of : Stmt := topS 1
theorem sc_lessons_of : FnScope ["roster", "side", "person", "place", "index", "lesson"] ["roster", "side", "person"] (defScope st_lessons_of) := ⟨rfl, rfl, rfl, by decide +kernel, rfl, by decide +kernel, by decide +kernel⟩
abbrev st_degrees : Stmt := topS 2
theorem sc_degrees : FnScope ["roster", "by_teacher", "person"] ["roster"] (defScope st_degrees) := ⟨rfl, rfl, rfl, by decide +kernel, rfl, by decide +kernel, by decide +kernel⟩
abbrev st_bounds_of : Stmt := topS 4
theorem sc_bounds_of : FnScope ["roster", "by_teacher", "by_group", "teacher", "group"] ["roster"] (defScope st_bounds_of) := ⟨rfl, rfl, rfl, by decide +kernel, rfl, by decide +kernel, by decide +kernel⟩
abbrev st_are_rivals : Stmt := topS 5
theorem sc_are_rivals : FnScope ["roster", "one", "other", "first", "second"] ["roster", "one", "other"] (defScope st_are_rivals) := ⟨rfl, rfl, rfl, by decide +kernel, rfl, by decide +kernel, by decide +kernel⟩
abbrev st_rivals : Stmt := topS 6
theorem sc_rivals : FnScope ["roster", "lesson", "other"] ["roster", "lesson"] (defScope st_rivals) := ⟨rfl, rfl, rfl, by decide +kernel, rfl, by decide +kernel, by decide +kernel⟩
abbrev st__law_rivals_right : Stmt := topS 13
theorem sc__law_rivals_right : FnScope ["_law_roster_here", "_law_bounds", "_law_found", "_law_lesson", "_law_row", "_law_other"] ["_law_roster_here"] (defScope st__law_rivals_right) := ⟨rfl, rfl, rfl, by decide +kernel, rfl, by decide +kernel, by decide +kernel⟩
abbrev st__law_same : Stmt := topS 12
theorem sc__law_same : FnScope ["_law_found", "_law_due"] ["_law_found", "_law_due"] (defScope st__law_same) := ⟨rfl, rfl, rfl, by decide +kernel, rfl, by decide +kernel, by decide +kernel⟩
abbrev st_greatest_degree : Stmt := topS 3
theorem sc_greatest_degree : FnScope ["roster", "by_teacher", "by_group"] ["roster"] (defScope st_greatest_degree) := ⟨rfl, rfl, rfl, by decide +kernel, rfl, by decide +kernel, by decide +kernel⟩
abbrev st_law : Stmt := topS 14
theorem sc_law : FnScope ["_law_script", "_law_state_here", "_law_turn", "_law_roster_here", "_law_teachers", "_law_groups", "_law_lessons", "_law_first", "_law_second", "_law_lesson", "_law_more", "_law_raised", "_law_also", "_law_turned", "_law_k", "_law_one"] ["_law_script"] (defScope st_law) := ⟨rfl, rfl, rfl, by decide +kernel, rfl, by decide +kernel, by decide +kernel⟩
/-! ### the walk -/
section
variable {P : Program} {w : World} {K : PySem.W.Frag} {mg : Str → Option Value} {base : Heap}
theorem cal__law_state (z_abs : mg "abs" = none) (z_len : mg "len" = none) {f : Addr} {fd : FuncData} (F : L2.Fun K "_law_state" "_law_state" st__law_state f fd) (hm : mg "_law_state" = some (.ref f)) (b : Binds K fd ["_law_script"] []) : CalG P w K mg base 1 "_law_state" [.q] (.r [(.l .s), (.l .s), .s]) F__law_state :=
  ⟨f, fd, ["_law_script"], fnG_dl (sf := S__law_state) (mr := [.u, .u, .u]) (po := []) (r := 2) F sc__law_state rfl rfl (.stb rfl (.nil _ _)) (.inr (nnx_seq nnx_ret)) (fun cdv A outer s H E _ _ _ =>
      ss_cons (ds_setLc 1 [("_law_cell", 2)] (pi_q 0) (pg_nm 2) (pts_no) (pd_b1 clAbs z_abs bt_abs (pd_var 2)))
      (ss_one (ds_ret (pd_rec (pl_cons (pd_lc [("_law_cell", 2)] (pi_seq (pd_frzVar 1)) (pg_nm 2) (pts_if (pb_cmp opGe (pd_var 2) (pd_bin opPow (pd_int) (pd_int)))) (pd_var 2)) (pl_cons (pd_bin opAddL (pd_var 1) (pd_frz (pd_lst (k := 1) .s (pl_cons (pd_bin opAdd (pd_b1 clLen z_len bt_len (pd_var 1)) (pd_int)) (pl_nil))))) (pl_cons (pd_int) (pl_nil))))) (.cons (.u _) (.cons (.u _) (.cons (.rfl _) .nil)))))), hm, F.kp, b⟩
theorem cal__law_draw (z_len : mg "len" = none) {f : Addr} {fd : FuncData} (F : L2.Fun K "_law_draw" "_law_draw" st__law_draw f fd) (hm : mg "_law_draw" = some (.ref f)) (b : Binds K fd ["_law_state_here", "_law_limit"] []) : CalG P w K mg base 1 "_law_draw" [(.r [(.l .s), (.l .s), .s]), .s] .s F__law_draw :=
  ⟨f, fd, ["_law_state_here", "_law_limit"], fnG_dl (sf := S__law_draw) (mr := [(.r [(.l .s), (.l .s), .s]), .u, .u, .u, .u]) (po := [0]) (r := 3) F sc__law_draw rfl rfl (.own (by decide) (.stb rfl (.nil _ _))) (.inl rfl) (fun cdv A outer s H E _ _ _ =>
      ss_cons (ds_wh fuel [(.r [(.l .s), (.l .s), .s]), .s, .u, .u, .u] (.cons (.rfl _) (.cons (.rfl _) (.cons (.rfl _) (.cons (.rfl _) (.cons (.rfl _) .nil))))) (pb_qcmp opNe (pq_ix ixAny (pq_var 0) (pq_int)) (pq_nil))
        (ss_le (ss_cons (ds_asg 2 (pd_itm (pp_fld 0 (pp_var 0)) (pq_int)))
      (ss_cons (ds_if (pb_cmp opGt (pd_var 2) (pd_int))
        (ss_cons (ds_setL (pd_bin opFdiv (pd_var 2) (pd_var 1)) (pp_fld 0 (pp_var 0)) (pq_int))
      (ss_one (ds_ret (pd_bin opMod (pd_var 2) (pd_var 1)) (.cons (.rfl _) (.cons (.u _) (.cons (.u _) (.cons (.rfl _) (.cons (.rfl _) .nil))))))))
        (ss_nil))
      (ss_one (ds_drop (pd_popAt (pp_fld 0 (pp_var 0)) (pq_int)))))) (.cons (.rfl _) (.cons (.rfl _) (.cons (.u _) (.cons (.rfl _) (.cons (.rfl _) .nil)))))) (.cons (.rfl _) (.cons (.rfl _) (.cons (.rfl _) (.cons (.rfl _) (.cons (.rfl _) .nil))))))
      (ss_cons (ds_setR 2 (pd_bin opAdd (pd_q (pq_ix ixAny (pq_var 0) (pq_int))) (pd_int)) (pp_var 0))
      (ss_cons (ds_asg 3 (pd_bin opMod (pd_itm (pp_fld 1 (pp_var 0)) (pq_bin opMod (pq_ix ixAny (pq_var 0) (pq_int)) (pq_b1 clLen z_len bt_len (pq_ix ixAny (pq_var 0) (pq_int))))) (pd_int)))
      (ss_cons (ds_asg 4 (pd_bin opAdd (pd_bin opMul (pd_var 3) (pd_bin opAdd (pd_int) (pd_bin opMul (pd_int) (pd_q (pq_ix ixAny (pq_var 0) (pq_int)))))) (pd_int)))
      (ss_cons (ds_asg 4 (pd_bin opMod (pd_bin opAdd (pd_var 4) (pd_bin opMul (pd_bin opMul (pd_int) (pd_q (pq_ix ixAny (pq_var 0) (pq_int)))) (pd_q (pq_ix ixAny (pq_var 0) (pq_int))))) (pd_int)))
      (ss_one (ds_ret (pd_bin opMod (pd_bin opFdiv (pd_bin opMod (pd_bin opMul (pd_var 4) (pd_var 4)) (pd_int)) (pd_int)) (pd_var 1)) (.cons (.rfl _) (.cons (.u _) (.cons (.rfl _) (.cons (.u _) (.cons (.u _) .nil)))))))))))), hm, F.kp, b⟩
theorem cal__law_pick (c__law_draw : CalG P w K mg base 1 "_law_draw" [(.r [(.l .s), (.l .s), .s]), .s] .s F__law_draw) (z_len : mg "len" = none) {f : Addr} {fd : FuncData} (F : L2.Fun K "_law_pick" "_law_pick" st__law_pick f fd) (hm : mg "_law_pick" = some (.ref f)) (b : Binds K fd ["_law_state_here", "_law_items"] []) : CalG P w K mg base 2 "_law_pick" [(.r [(.l .s), (.l .s), .s]), (.l .s)] .s F__law_pick :=
  ⟨f, fd, ["_law_state_here", "_law_items"], fnG_dl (sf := S__law_pick) (mr := [(.r [(.l .s), (.l .s), .s]), (.l .s)]) (po := [0, 1]) (r := 0) F sc__law_pick rfl rfl (.own (by decide) (.own (by decide) (.nil _ _))) (.inl rfl) (fun cdv A outer s H E _ _ _ =>
      ss_one (ds_ret (pd_itmG 1 (pd_callL (kk := 0) (j := 0) c__law_draw (pl_lend 0 (pl_cons (pd_q (pq_b1 clLen z_len bt_len (pq_var 1))) (pl_nil))))) (.cons (.rfl _) (.cons (.rfl _) .nil)))), hm, F.kp, b⟩
theorem cal__law_roster (c__law_draw : CalG P w K mg base 1 "_law_draw" [(.r [(.l .s), (.l .s), .s]), .s] .s F__law_draw) (c__law_pick : CalG P w K mg base 2 "_law_pick" [(.r [(.l .s), (.l .s), .s]), (.l .s)] .s F__law_pick) (z_range : mg "range" = none) (z_tuple : mg "tuple" = none) {f : Addr} {fd : FuncData} (F : L2.Fun K "_law_roster" "_law_roster" st__law_roster f fd) (hm : mg "_law_roster" = some (.ref f)) (b : Binds K fd ["_law_state_here", "_law_people", "_law_most"] []) : CalG P w K mg base 3 "_law_roster" [(.r [(.l .s), (.l .s), .s]), .s, .s] .s F__law_roster :=
  ⟨f, fd, ["_law_state_here", "_law_people", "_law_most"], fnG_dl (sf := S__law_roster) (mr := [(.r [(.l .s), (.l .s), .s]), .u, .u, .u, .u, .u, .u, .u, .u]) (po := [0]) (r := 6) F sc__law_roster rfl rfl (.own (by decide) (.stb rfl (.stb rfl (.nil _ _)))) (.inl rfl) (fun cdv A outer s H E _ _ _ =>
      ss_cons (ds_par 3 4 (pl_cons (pd_bin opAdd (pd_int) (pd_callL (kk := 0) (j := 0) c__law_draw (pl_lend 0 (pl_cons (pd_var 1) (pl_nil))))) (pl_cons (pd_bin opAdd (pd_int) (pd_callL (kk := 0) (j := 0) c__law_draw (pl_lend 0 (pl_cons (pd_var 1) (pl_nil))))) (pl_nil))))
      (ss_cons (ds_parT 5 6 (pl_cons (pd_callL (kk := 0) (j := 0) c__law_draw (pl_lend 0 (pl_cons (pd_int) (pl_nil)))) (pl_cons (pd_lst (k := 0) .s (pl_nil)) (pl_nil))))
      (ss_cons (ds_for [(.r [(.l .s), (.l .s), .s]), .s, .s, .s, .s, .s, (.l .s), .u, .u] (pi_r1 z_range (pd_callL (kk := 0) (j := 0) c__law_draw (pl_lend 0 (pl_cons (pd_bin opAdd (pd_var 2) (pd_int)) (pl_nil))))) (.cons (.rfl _) (.cons (.rfl _) (.cons (.rfl _) (.cons (.rfl _) (.cons (.rfl _) (.cons (.rfl _) (.cons (.rfl _) (.cons (.rfl _) (.cons (.rfl _) .nil))))))))) (pg_nm 7)
        (ss_le (ss_cons (ds_asg 8 (pd_tup (k := 2) (pl_cons (pd_callL (kk := 0) (j := 0) c__law_draw (pl_lend 0 (pl_cons (pd_var 3) (pl_nil)))) (pl_cons (pd_callL (kk := 0) (j := 0) c__law_draw (pl_lend 0 (pl_cons (pd_var 4) (pl_nil)))) (pl_nil)))))
      (ss_cons (ds_if (pb_w (pbw_and (pb_cmp opEq (pd_var 5) (pd_int)) (pbw_and1 (pb_cmp opEq (pd_callL (kk := 0) (j := 0) c__law_draw (pl_lend 0 (pl_cons (pd_int) (pl_nil)))) (pd_int)))))
        (ss_one (ds_asg 8 (pd_tup (k := 2) (pl_cons (pd_int) (pl_cons (pd_ix ixAny (pd_var 8) (pd_int)) (pl_nil))))))
        (ss_nil))
      (ss_cons (ds_if (pb_w (pbw_and (pb_cmp opEq (pd_var 5) (pd_int)) (pbw_and1 (pb_cmp opEq (pd_callL (kk := 0) (j := 0) c__law_draw (pl_lend 0 (pl_cons (pd_int) (pl_nil)))) (pd_int)))))
        (ss_one (ds_asg 8 (pd_tup (k := 2) (pl_cons (pd_ix ixAny (pd_var 8) (pd_int)) (pl_cons (pd_bin opSub (pd_var 4) (pd_int)) (pl_nil))))))
        (ss_nil))
      (ss_cons (ds_if (pb_w (pbw_and (pb_cmp opEq (pd_var 5) (pd_int)) (pbw_and (pb_qcmp opNe (pq_var 6) (pq_nil)) (pbw_and1 (pb_cmp opEq (pd_callL (kk := 0) (j := 0) c__law_draw (pl_lend 0 (pl_cons (pd_int) (pl_nil)))) (pd_int))))))
        (ss_one (ds_asg 8 (pd_callL2 (k1 := 0) (j1 := 0) (k2 := 1) (j2 := 6) c__law_pick (pl_lend 0 (pl_lend 6 (pl_nil))))))
        (ss_nil))
      (ss_one (ds_drop (pd_app 6 (pd_var 8)))))))) (.cons (.rfl _) (.cons (.rfl _) (.cons (.rfl _) (.cons (.rfl _) (.cons (.rfl _) (.cons (.rfl _) (.cons (.rfl _) (.cons (.u _) (.cons (.u _) .nil)))))))))) (.cons (.rfl _) (.cons (.rfl _) (.cons (.rfl _) (.cons (.rfl _) (.cons (.rfl _) (.cons (.rfl _) (.cons (.rfl _) (.cons (.rfl _) (.cons (.rfl _) .nil))))))))))
      (ss_one (ds_ret (pd_tup (k := 3) (pl_cons (pd_var 3) (pl_cons (pd_var 4) (pl_cons (pd_t1 clTuple z_tuple bt_tuple (pd_frzVar 6)) (pl_nil))))) (.cons (.rfl _) (.cons (.u _) (.cons (.u _) (.cons (.u _) (.cons (.u _) (.cons (.u _) (.cons (.u _) (.cons (.rfl _) (.cons (.rfl _) .nil)))))))))))))), hm, F.kp, b⟩
theorem cal_lessons_of (z_enumerate : mg "enumerate" = none) {f : Addr} {fd : FuncData} (F : L2.Fun K "lessons_of" "lessons_of" st_lessons_of f fd) (hm : mg "lessons_of" = some (.ref f)) (b : Binds K fd ["roster", "side", "person"] []) : CalG P w K mg base 1 "lessons_of" [.s, .s, .s] .s F_lessons_of :=
  ⟨f, fd, ["roster", "side", "person"], fnG_dl (sf := S_lessons_of) (mr := [.u, .u, .u, .u, .u, .u]) (po := []) (r := 3) F sc_lessons_of rfl rfl (.stb rfl (.stb rfl (.stb rfl (.nil _ _)))) (.inl rfl) (fun cdv A outer s H E _ _ _ =>
      ss_cons (ds_asg 3 (pd_ifexp (pb_cmp opEq (pd_var 1) (pd_str)) (pd_int) (pd_int)))
      (ss_one (ds_ret (pd_frz (pd_lc [("index", 4), ("lesson", 5)] (pi_en z_enumerate (pd_ix ixAny (pd_var 0) (pd_int))) (pg_tp (k := 2) (pgs_cn (pg_nm 4) (pgs_cn (pg_nm 5) (pgs_nl)))) (pts_if (pb_cmp opEq (pd_ix ixAny (pd_var 5) (pd_var 3)) (pd_var 2))) (pd_var 4))) (.cons (.u _) (.cons (.u _) (.cons (.u _) (.cons (.u _) (.cons (.rfl _) (.cons (.rfl _) .nil))))))))), hm, F.kp, b⟩
theorem cal_degrees (c_lessons_of : CalG P w K mg base 1 "lessons_of" [.s, .s, .s] .s F_lessons_of) (z_tuple : mg "tuple" = none) (z_range : mg "range" = none) (z_len : mg "len" = none) {f : Addr} {fd : FuncData} (F : L2.Fun K "degrees" "degrees" st_degrees f fd) (hm : mg "degrees" = some (.ref f)) (b : Binds K fd ["roster"] []) : CalG P w K mg base 2 "degrees" [.s] .s F_degrees :=
  ⟨f, fd, ["roster"], fnG_dl (sf := S_degrees) (mr := [.u, .u, .u]) (po := []) (r := 2) F sc_degrees rfl rfl (.stb rfl (.nil _ _)) (.inl rfl) (fun cdv A outer s H E _ _ _ =>
      ss_cons (ds_asg 1 (pd_t1 clTuple z_tuple bt_tuple (pd_frz (pd_lc [("person", 2)] (pi_r1 z_range (pd_ix ixAny (pd_var 0) (pd_int))) (pg_nm 2) (pts_no) (pd_b1 clLen z_len bt_len (pd_call c_lessons_of (pl_cons (pd_var 0) (pl_cons (pd_str) (pl_cons (pd_var 2) (pl_nil))))))))))
      (ss_one (ds_ret (pd_tup (k := 2) (pl_cons (pd_var 1) (pl_cons (pd_t1 clTuple z_tuple bt_tuple (pd_frz (pd_lc [("person", 2)] (pi_r1 z_range (pd_ix ixAny (pd_var 0) (pd_int))) (pg_nm 2) (pts_no) (pd_b1 clLen z_len bt_len (pd_call c_lessons_of (pl_cons (pd_var 0) (pl_cons (pd_str) (pl_cons (pd_var 2) (pl_nil))))))))) (pl_nil)))) (.cons (.u _) (.cons (.u _) (.cons (.rfl _) .nil)))))), hm, F.kp, b⟩
theorem cal_bounds_of (c_degrees : CalG P w K mg base 2 "degrees" [.s] .s F_degrees) (z_tuple : mg "tuple" = none) (z_max : mg "max" = none) {f : Addr} {fd : FuncData} (F : L2.Fun K "bounds_of" "bounds_of" st_bounds_of f fd) (hm : mg "bounds_of" = some (.ref f)) (b : Binds K fd ["roster"] []) : CalG P w K mg base 3 "bounds_of" [.s] .s F_bounds_of :=
  ⟨f, fd, ["roster"], fnG_dl (sf := S_bounds_of) (mr := [.u, .u, .u, .u, .u]) (po := []) (r := 4) F sc_bounds_of rfl rfl (.stb rfl (.nil _ _)) (.inl rfl) (fun cdv A outer s H E _ _ _ =>
      ss_cons (ds_tg (pd_call c_degrees (pl_cons (pd_var 0) (pl_nil))) (pg_tp (k := 2) (pgs_cn (pg_nm 1) (pgs_cn (pg_nm 2) (pgs_nl)))))
      (ss_one (ds_ret (pd_t1 clTuple z_tuple bt_tuple (pd_frz (pd_lc [("teacher", 3), ("group", 4)] (pi_seq (pd_ix ixAny (pd_var 0) (pd_int))) (pg_tp (k := 2) (pgs_cn (pg_nm 3) (pgs_cn (pg_nm 4) (pgs_nl)))) (pts_no) (pd_b2 clMax2 z_max bt_max (pd_ix ixAny (pd_var 1) (pd_var 3)) (pd_ix ixAny (pd_var 2) (pd_var 4)))))) (.cons (.u _) (.cons (.u _) (.cons (.u _) (.cons (.rfl _) (.cons (.rfl _) .nil)))))))), hm, F.kp, b⟩
theorem cal_are_rivals  {f : Addr} {fd : FuncData} (F : L2.Fun K "are_rivals" "are_rivals" st_are_rivals f fd) (hm : mg "are_rivals" = some (.ref f)) (b : Binds K fd ["roster", "one", "other"] []) : CalG P w K mg base 1 "are_rivals" [.s, .s, .s] .s F_are_rivals :=
  ⟨f, fd, ["roster", "one", "other"], fnG_dl (sf := S_are_rivals) (mr := [.u, .u, .u, .u, .u]) (po := []) (r := 2) F sc_are_rivals rfl rfl (.stb rfl (.stb rfl (.stb rfl (.nil _ _)))) (.inl rfl) (fun cdv A outer s H E _ _ _ =>
      ss_cons (ds_par 3 4 (pl_cons (pd_ix ixAny (pd_ix ixAny (pd_var 0) (pd_int)) (pd_var 1)) (pl_cons (pd_ix ixAny (pd_ix ixAny (pd_var 0) (pd_int)) (pd_var 2)) (pl_nil))))
      (ss_one (ds_ret (pd_and (pd_cmp opNe (pd_var 1) (pd_var 2)) (pd_and1 (pd_or (pd_cmp opEq (pd_ix ixAny (pd_var 3) (pd_int)) (pd_ix ixAny (pd_var 4) (pd_int))) (pd_or1 (pd_cmp opEq (pd_ix ixAny (pd_var 3) (pd_int)) (pd_ix ixAny (pd_var 4) (pd_int))))))) (.cons (.u _) (.cons (.u _) (.cons (.u _) (.cons (.u _) (.cons (.u _) .nil)))))))), hm, F.kp, b⟩
theorem cal_rivals (c_are_rivals : CalG P w K mg base 1 "are_rivals" [.s, .s, .s] .s F_are_rivals) (z_tuple : mg "tuple" = none) (z_range : mg "range" = none) (z_len : mg "len" = none) {f : Addr} {fd : FuncData} (F : L2.Fun K "rivals" "rivals" st_rivals f fd) (hm : mg "rivals" = some (.ref f)) (b : Binds K fd ["roster", "lesson"] []) : CalG P w K mg base 2 "rivals" [.s, .s] .s F_rivals :=
  ⟨f, fd, ["roster", "lesson"], fnG_dl (sf := S_rivals) (mr := [.u, .u, .u]) (po := []) (r := 1) F sc_rivals rfl rfl (.stb rfl (.stb rfl (.nil _ _))) (.inl rfl) (fun cdv A outer s H E _ _ _ =>
      ss_one (ds_ret (pd_t1 clTuple z_tuple bt_tuple (pd_frz (pd_lc [("other", 2)] (pi_r1 z_range (pd_b1 clLen z_len bt_len (pd_ix ixAny (pd_var 0) (pd_int)))) (pg_nm 2) (pts_if (pb_of (pd_call c_are_rivals (pl_cons (pd_var 0) (pl_cons (pd_var 1) (pl_cons (pd_var 2) (pl_nil))))))) (pd_var 2)))) (.cons (.u _) (.cons (.u _) (.cons (.rfl _) .nil))))), hm, F.kp, b⟩
theorem cal__law_rivals_right (c_bounds_of : CalG P w K mg base 3 "bounds_of" [.s] .s F_bounds_of) (c_rivals : CalG P w K mg base 2 "rivals" [.s, .s] .s F_rivals) (z_range : mg "range" = none) (z_len : mg "len" = none) (z_enumerate : mg "enumerate" = none) {f : Addr} {fd : FuncData} (F : L2.Fun K "_law_rivals_right" "_law_rivals_right" st__law_rivals_right f fd) (hm : mg "_law_rivals_right" = some (.ref f)) (b : Binds K fd ["_law_roster_here"] []) : CalG P w K mg base 4 "_law_rivals_right" [.s] .s F__law_rivals_right :=
  ⟨f, fd, ["_law_roster_here"], fnG_dl (sf := S__law_rivals_right) (mr := [.u, .u, .u, .u, .u, .u]) (po := []) (r := 5) F sc__law_rivals_right rfl rfl (.stb rfl (.nil _ _)) (.inl rfl) (fun cdv A outer s H E _ _ _ =>
      ss_cons (ds_asg 1 (pd_call c_bounds_of (pl_cons (pd_var 0) (pl_nil))))
      (ss_cons (ds_asg 2 (pd_frz (pd_lc [("_law_lesson", 3)] (pi_r1 z_range (pd_b1 clLen z_len bt_len (pd_ix ixAny (pd_var 0) (pd_int)))) (pg_nm 3) (pts_no) (pd_call c_rivals (pl_cons (pd_var 0) (pl_cons (pd_var 3) (pl_nil)))))))
      (ss_cons (ds_for [.s, .s, .s, .u, .u, .u] (pi_en z_enumerate (pd_var 2)) (.cons (.rfl _) (.cons (.rfl _) (.cons (.rfl _) (.cons (.rfl _) (.cons (.rfl _) (.cons (.rfl _) .nil)))))) (pg_tp (k := 2) (pgs_cn (pg_nm 3) (pgs_cn (pg_nm 4) (pgs_nl))))
        (ss_le (ss_cons (ds_if (pb_w (pbw_or (pb_cmp opGt (pd_b1 clLen z_len bt_len (pd_var 4)) (pd_bin opSub (pd_bin opMul (pd_int) (pd_ix ixAny (pd_var 1) (pd_var 3))) (pd_int))) (pbw_or1 (pb_cmp opLt (pd_b1 clLen z_len bt_len (pd_var 4)) (pd_bin opSub (pd_ix ixAny (pd_var 1) (pd_var 3)) (pd_int))))))
        (ss_one (ds_ret (pd_bool) (.cons (.u _) (.cons (.u _) (.cons (.u _) (.cons (.u _) (.cons (.u _) (.cons (.rfl _) .nil))))))))
        (ss_nil))
      (ss_one (ds_if (pb_cmp opNe (pd_frz (pd_lc [("_law_other", 5)] (pi_seq (pd_var 4)) (pg_nm 5) (pts_if (pb_cmp opNotIn (pd_var 3) (pd_ix ixAny (pd_var 2) (pd_var 5)))) (pd_var 5))) (pd_frz (pd_lst (k := 0) .s (pl_nil))))
        (ss_one (ds_ret (pd_bool) (.cons (.u _) (.cons (.u _) (.cons (.u _) (.cons (.u _) (.cons (.u _) (.cons (.rfl _) .nil))))))))
        (ss_nil)))) (.cons (.rfl _) (.cons (.rfl _) (.cons (.rfl _) (.cons (.u _) (.cons (.u _) (.cons (.rfl _) .nil))))))) (.cons (.rfl _) (.cons (.rfl _) (.cons (.rfl _) (.cons (.rfl _) (.cons (.rfl _) (.cons (.rfl _) .nil)))))))
      (ss_one (ds_ret (pd_bool) (.cons (.u _) (.cons (.u _) (.cons (.u _) (.cons (.rfl _) (.cons (.rfl _) (.cons (.rfl _) .nil))))))))))), hm, F.kp, b⟩
theorem cal__law_same (z_repr : mg "repr" = none) {f : Addr} {fd : FuncData} (F : L2.Fun K "_law_same" "_law_same" st__law_same f fd) (hm : mg "_law_same" = some (.ref f)) (b : Binds K fd ["_law_found", "_law_due"] []) : CalG P w K mg base 1 "_law_same" [.s, .s] .s F__law_same :=
  ⟨f, fd, ["_law_found", "_law_due"], fnG_dl (sf := S__law_same) (mr := [.u, .u]) (po := []) (r := 0) F sc__law_same rfl rfl (.stb rfl (.stb rfl (.nil _ _))) (.inl rfl) (fun cdv A outer s H E _ _ _ =>
      ss_one (ds_ret (pd_cmp opEq (pd_b1 clRepr z_repr bt_repr (pd_var 0)) (pd_b1 clRepr z_repr bt_repr (pd_var 1))) (.cons (.u _) (.cons (.u _) .nil)))), hm, F.kp, b⟩
theorem cal_greatest_degree (c_degrees : CalG P w K mg base 2 "degrees" [.s] .s F_degrees) (z_max : mg "max" = none) {f : Addr} {fd : FuncData} (F : L2.Fun K "greatest_degree" "greatest_degree" st_greatest_degree f fd) (hm : mg "greatest_degree" = some (.ref f)) (b : Binds K fd ["roster"] []) : CalG P w K mg base 3 "greatest_degree" [.s] .s F_greatest_degree :=
  ⟨f, fd, ["roster"], fnG_dl (sf := S_greatest_degree) (mr := [.u, .u, .u]) (po := []) (r := 2) F sc_greatest_degree rfl rfl (.stb rfl (.nil _ _)) (.inl rfl) (fun cdv A outer s H E _ _ _ =>
      ss_cons (ds_tg (pd_call c_degrees (pl_cons (pd_var 0) (pl_nil))) (pg_tp (k := 2) (pgs_cn (pg_nm 1) (pgs_cn (pg_nm 2) (pgs_nl)))))
      (ss_one (ds_ret (pd_b1 clMax z_max bt_max (pd_bin opAdd (pd_var 1) (pd_var 2))) (.cons (.u _) (.cons (.u _) (.cons (.u _) .nil)))))), hm, F.kp, b⟩
theorem fn_law (c__law_state : CalG P w K mg base 1 "_law_state" [.q] (.r [(.l .s), (.l .s), .s]) F__law_state) (c__law_roster : CalG P w K mg base 3 "_law_roster" [(.r [(.l .s), (.l .s), .s]), .s, .s] .s F__law_roster) (c_degrees : CalG P w K mg base 2 "degrees" [.s] .s F_degrees) (c__law_rivals_right : CalG P w K mg base 4 "_law_rivals_right" [.s] .s F__law_rivals_right) (c__law_draw : CalG P w K mg base 1 "_law_draw" [(.r [(.l .s), (.l .s), .s]), .s] .s F__law_draw) (c__law_same : CalG P w K mg base 1 "_law_same" [.s, .s] .s F__law_same) (c_bounds_of : CalG P w K mg base 3 "bounds_of" [.s] .s F_bounds_of) (c_greatest_degree : CalG P w K mg base 3 "greatest_degree" [.s] .s F_greatest_degree) (c_rivals : CalG P w K mg base 2 "rivals" [.s, .s] .s F_rivals) (z_range : mg "range" = none) (z_sum : mg "sum" = none) (z_len : mg "len" = none) (z_enumerate : mg "enumerate" = none) (z_int : mg "int" = none) (z_tuple : mg "tuple" = none) {f : Addr} {fd : FuncData} (F : L2.Fun K "law" "law" st_law f fd) : FnG P w K mg base 5 f fd ["_law_script"] (spD K [.q] .s F_law) :=
  fnG_dl (sf := S_law) (mr := [.u, .u, .u, .u, .u, .u, .u, .u, .u, .u, .u, .u, .u, .u, .u, .u]) (po := []) (r := 15) F sc_law rfl rfl (.stb rfl (.nil _ _)) (.inl rfl) (fun cdv A outer s H E _ _ _ =>
      ss_cons (ds_asg 1 (pd_callL (kk := 0) (j := 0) c__law_state (pl_lend 0 (pl_nil))))
      (ss_cons (ds_for [.q, (.r [(.l .s), (.l .s), .s]), .u, .u, .u, .u, .u, .u, .u, .u, .u, .u, .u, .u, .u, .u] (pi_r1 z_range (pd_int)) (.cons (.rfl _) (.cons (.rfl _) (.cons (.rfl _) (.cons (.rfl _) (.cons (.rfl _) (.cons (.rfl _) (.cons (.rfl _) (.cons (.rfl _) (.cons (.rfl _) (.cons (.rfl _) (.cons (.rfl _) (.cons (.rfl _) (.cons (.rfl _) (.cons (.rfl _) (.cons (.rfl _) (.cons (.rfl _) .nil)))))))))))))))) (pg_nm 2)
        (ss_le (ss_cons (ds_asg 3 (pd_callL (kk := 0) (j := 1) c__law_roster (pl_lend 1 (pl_cons (pd_int) (pl_cons (pd_int) (pl_nil))))))
      (ss_cons (ds_tg (pd_var 3) (pg_tp (k := 3) (pgs_cn (pg_nm 4) (pgs_cn (pg_nm 5) (pgs_cn (pg_nm 6) (pgs_nl))))))
      (ss_cons (ds_tg (pd_call c_degrees (pl_cons (pd_var 3) (pl_nil))) (pg_tp (k := 2) (pgs_cn (pg_nm 7) (pgs_cn (pg_nm 8) (pgs_nl)))))
      (ss_cons (ds_if (pb_w (pbw_or (pb_cmp opNe (pd_b1 clSum z_sum bt_sum (pd_var 7)) (pd_b1 clLen z_len bt_len (pd_var 6))) (pbw_or (pb_cmp opNe (pd_b1 clSum z_sum bt_sum (pd_var 8)) (pd_b1 clLen z_len bt_len (pd_var 6))) (pbw_or1 (pb_not (pb_of (pd_call c__law_rivals_right (pl_cons (pd_var 3) (pl_nil)))))))))
        (ss_one (ds_ret (pd_bool) (.cons (.u _) (.cons (.u _) (.cons (.u _) (.cons (.u _) (.cons (.u _) (.cons (.u _) (.cons (.u _) (.cons (.u _) (.cons (.u _) (.cons (.rfl _) (.cons (.rfl _) (.cons (.rfl _) (.cons (.rfl _) (.cons (.rfl _) (.cons (.rfl _) (.cons (.rfl _) .nil))))))))))))))))))
        (ss_nil))
      (ss_cons (ds_asg 9 (pd_tup (k := 2) (pl_cons (pd_callL (kk := 0) (j := 1) c__law_draw (pl_lend 1 (pl_cons (pd_var 4) (pl_nil)))) (pl_cons (pd_callL (kk := 0) (j := 1) c__law_draw (pl_lend 1 (pl_cons (pd_var 5) (pl_nil)))) (pl_nil)))))
      (ss_cons (ds_asg 10 (pd_tup (k := 3) (pl_cons (pd_var 4) (pl_cons (pd_var 5) (pl_cons (pd_bin opAdd (pd_var 6) (pd_tup (k := 1) (pl_cons (pd_var 9) (pl_nil)))) (pl_nil))))))
      (ss_cons (ds_setLc 11 [("_law_k", 14), ("_law_one", 15)] (pi_en z_enumerate (pd_var 7)) (pg_tp (k := 2) (pgs_cn (pg_nm 14) (pgs_cn (pg_nm 15) (pgs_nl)))) (pts_no) (pd_bin opAdd (pd_var 15) (pd_t1 clInt z_int bt_int (pd_cmp opEq (pd_var 14) (pd_ix ixAny (pd_var 9) (pd_int))))))
      (ss_cons (ds_setLc 12 [("_law_k", 14), ("_law_one", 15)] (pi_en z_enumerate (pd_var 8)) (pg_tp (k := 2) (pgs_cn (pg_nm 14) (pgs_cn (pg_nm 15) (pgs_nl)))) (pts_no) (pd_bin opAdd (pd_var 15) (pd_t1 clInt z_int bt_int (pd_cmp opEq (pd_var 14) (pd_ix ixAny (pd_var 9) (pd_int))))))
      (ss_cons (ds_if (pb_not (pb_of (pd_call c__law_same (pl_cons (pd_call c_degrees (pl_cons (pd_var 10) (pl_nil))) (pl_cons (pd_tup (k := 2) (pl_cons (pd_t1 clTuple z_tuple bt_tuple (pd_frzVar 11)) (pl_cons (pd_t1 clTuple z_tuple bt_tuple (pd_frzVar 12)) (pl_nil)))) (pl_nil))))))
        (ss_one (ds_ret (pd_bool) (.cons (.u _) (.cons (.u _) (.cons (.u _) (.cons (.u _) (.cons (.u _) (.cons (.u _) (.cons (.u _) (.cons (.u _) (.cons (.u _) (.cons (.u _) (.cons (.u _) (.cons (.u _) (.cons (.u _) (.cons (.rfl _) (.cons (.rfl _) (.cons (.rfl _) .nil))))))))))))))))))
        (ss_nil))
      (ss_cons (ds_if (pb_cmp opNe (pd_frz (pd_lc [("_law_k", 14), ("_law_one", 15)] (pi_en z_enumerate (pd_call c_bounds_of (pl_cons (pd_var 3) (pl_nil)))) (pg_tp (k := 2) (pgs_cn (pg_nm 14) (pgs_cn (pg_nm 15) (pgs_nl)))) (pts_if (pb_not (pb_chain opLe opLe (pd_var 15) (pd_ix ixAny (pd_call c_bounds_of (pl_cons (pd_var 10) (pl_nil))) (pd_var 14)) (pd_bin opAdd (pd_var 15) (pd_int))))) (pd_var 14))) (pd_frz (pd_lst (k := 0) .s (pl_nil))))
        (ss_one (ds_ret (pd_bool) (.cons (.u _) (.cons (.u _) (.cons (.u _) (.cons (.u _) (.cons (.u _) (.cons (.u _) (.cons (.u _) (.cons (.u _) (.cons (.u _) (.cons (.u _) (.cons (.u _) (.cons (.u _) (.cons (.u _) (.cons (.rfl _) (.cons (.rfl _) (.cons (.rfl _) .nil))))))))))))))))))
        (ss_nil))
      (ss_cons (ds_if (pb_cmp opNotIn (pd_bin opSub (pd_call c_greatest_degree (pl_cons (pd_var 10) (pl_nil))) (pd_call c_greatest_degree (pl_cons (pd_var 3) (pl_nil)))) (pd_tup (k := 2) (pl_cons (pd_int) (pl_cons (pd_int) (pl_nil)))))
        (ss_one (ds_ret (pd_bool) (.cons (.u _) (.cons (.u _) (.cons (.u _) (.cons (.u _) (.cons (.u _) (.cons (.u _) (.cons (.u _) (.cons (.u _) (.cons (.u _) (.cons (.u _) (.cons (.u _) (.cons (.u _) (.cons (.u _) (.cons (.rfl _) (.cons (.rfl _) (.cons (.rfl _) .nil))))))))))))))))))
        (ss_nil))
      (ss_cons (ds_asg 13 (pd_tup (k := 3) (pl_cons (pd_var 5) (pl_cons (pd_var 4) (pl_cons (pd_t1 clTuple z_tuple bt_tuple (pd_frz (pd_lc [("_law_one", 15)] (pi_seq (pd_var 6)) (pg_nm 15) (pts_no) (pd_back (pd_var 15))))) (pl_nil))))))
      (ss_cons (ds_if (pb_w (pbw_or (pb_not (pb_of (pd_call c__law_same (pl_cons (pd_call c_degrees (pl_cons (pd_var 13) (pl_nil))) (pl_cons (pd_tup (k := 2) (pl_cons (pd_var 8) (pl_cons (pd_var 7) (pl_nil)))) (pl_nil)))))) (pbw_or1 (pb_cmp opNe (pd_call c_bounds_of (pl_cons (pd_var 13) (pl_nil))) (pd_call c_bounds_of (pl_cons (pd_var 3) (pl_nil)))))))
        (ss_one (ds_ret (pd_bool) (.cons (.u _) (.cons (.u _) (.cons (.u _) (.cons (.u _) (.cons (.u _) (.cons (.u _) (.cons (.u _) (.cons (.u _) (.cons (.u _) (.cons (.u _) (.cons (.u _) (.cons (.u _) (.cons (.u _) (.cons (.u _) (.cons (.rfl _) (.cons (.rfl _) .nil))))))))))))))))))
        (ss_nil))
      (ss_one (ds_if (pb_cmp opNe (pd_frz (pd_lc [("_law_k", 14)] (pi_r1 z_range (pd_b1 clLen z_len bt_len (pd_var 6))) (pg_nm 14) (pts_if (pb_cmp opNe (pd_call c_rivals (pl_cons (pd_var 13) (pl_cons (pd_var 14) (pl_nil)))) (pd_call c_rivals (pl_cons (pd_var 3) (pl_cons (pd_var 14) (pl_nil)))))) (pd_var 14))) (pd_frz (pd_lst (k := 0) .s (pl_nil))))
        (ss_one (ds_ret (pd_bool) (.cons (.u _) (.cons (.u _) (.cons (.u _) (.cons (.u _) (.cons (.u _) (.cons (.u _) (.cons (.u _) (.cons (.u _) (.cons (.u _) (.cons (.u _) (.cons (.u _) (.cons (.u _) (.cons (.u _) (.cons (.u _) (.cons (.rfl _) (.cons (.rfl _) .nil))))))))))))))))))
        (ss_nil)))))))))))))))) (.cons (.rfl _) (.cons (.rfl _) (.cons (.u _) (.cons (.u _) (.cons (.u _) (.cons (.u _) (.cons (.u _) (.cons (.u _) (.cons (.u _) (.cons (.u _) (.cons (.u _) (.cons (.u _) (.cons (.u _) (.cons (.u _) (.cons (.rfl _) (.cons (.rfl _) .nil))))))))))))))))) (.cons (.rfl _) (.cons (.rfl _) (.cons (.rfl _) (.cons (.rfl _) (.cons (.rfl _) (.cons (.rfl _) (.cons (.rfl _) (.cons (.rfl _) (.cons (.rfl _) (.cons (.rfl _) (.cons (.rfl _) (.cons (.rfl _) (.cons (.rfl _) (.cons (.rfl _) (.cons (.rfl _) (.cons (.rfl _) .nil)))))))))))))))))
      (ss_one (ds_ret (pd_bool) (.cons (.u _) (.cons (.u _) (.cons (.rfl _) (.cons (.rfl _) (.cons (.rfl _) (.cons (.rfl _) (.cons (.rfl _) (.cons (.rfl _) (.cons (.rfl _) (.cons (.rfl _) (.cons (.rfl _) (.cons (.rfl _) (.cons (.rfl _) (.cons (.rfl _) (.cons (.rfl _) (.cons (.rfl _) .nil))))))))))))))))))))
end
/-! ### what the top has written -/
theorem all_mk {l : PySem.W.OpenLaw} {w : World} {K : PySem.W.Frag} {h : Heap} {mg : Str → Option Value} {fa f1 f2 f3 f4 f5 f6 f7 f8 f9 f10 f11 f12 f13 : Addr} (X : K.In h) (G : h.Ns mainGlobals mg) (hfa : mg "law" = some (.ref fa))
    {od1 an1 : Option Addr} {sl1 : Array (Option Value)} {oc1 kV1 dc1 pm1 cd1 ct1 : Value}
    {od2 an2 : Option Addr} {sl2 : Array (Option Value)} {oc2 kV2 dc2 pm2 cd2 ct2 : Value}
    {od3 an3 : Option Addr} {sl3 : Array (Option Value)} {oc3 kV3 dc3 pm3 cd3 ct3 : Value}
    {od4 an4 : Option Addr} {sl4 : Array (Option Value)} {oc4 kV4 dc4 pm4 cd4 ct4 : Value}
    {od5 an5 : Option Addr} {sl5 : Array (Option Value)} {oc5 kV5 dc5 pm5 cd5 ct5 : Value}
    {od6 an6 : Option Addr} {sl6 : Array (Option Value)} {oc6 kV6 dc6 pm6 cd6 ct6 : Value}
    {od7 an7 : Option Addr} {sl7 : Array (Option Value)} {oc7 kV7 dc7 pm7 cd7 ct7 : Value}
    {od8 an8 : Option Addr} {sl8 : Array (Option Value)} {oc8 kV8 dc8 pm8 cd8 ct8 : Value}
    {od9 an9 : Option Addr} {sl9 : Array (Option Value)} {oc9 kV9 dc9 pm9 cd9 ct9 : Value}
    {od10 an10 : Option Addr} {sl10 : Array (Option Value)} {oc10 kV10 dc10 pm10 cd10 ct10 : Value}
    {od11 an11 : Option Addr} {sl11 : Array (Option Value)} {oc11 kV11 dc11 pm11 cd11 ct11 : Value}
    {od12 an12 : Option Addr} {sl12 : Array (Option Value)} {oc12 kV12 dc12 pm12 cd12 ct12 : Value}
    {od13 an13 : Option Addr} {sl13 : Array (Option Value)} {oc13 kV13 dc13 pm13 cd13 ct13 : Value}
    (a1 : PySem.W.nsIn K mainGlobals "_law_state" = some (some (.ref f1))) (l1 : K.lookup f1 = some ⟨oc1, od1, .func (PySem.W.fnOf "_law_state" "_law_state" (defArgs st__law_state) (defBody st__law_state) (defScope st__law_state) .none kV1 dc1 pm1 an1 cd1 ct1), sl1⟩) (c1 : PySem.W.codeIn K cd1 "_law_state" = true) (k1 : PySem.W.keepIn K (.ref f1) = true)
    (a2 : PySem.W.nsIn K mainGlobals "_law_draw" = some (some (.ref f2))) (l2 : K.lookup f2 = some ⟨oc2, od2, .func (PySem.W.fnOf "_law_draw" "_law_draw" (defArgs st__law_draw) (defBody st__law_draw) (defScope st__law_draw) .none kV2 dc2 pm2 an2 cd2 ct2), sl2⟩) (c2 : PySem.W.codeIn K cd2 "_law_draw" = true) (k2 : PySem.W.keepIn K (.ref f2) = true)
    (a3 : PySem.W.nsIn K mainGlobals "_law_pick" = some (some (.ref f3))) (l3 : K.lookup f3 = some ⟨oc3, od3, .func (PySem.W.fnOf "_law_pick" "_law_pick" (defArgs st__law_pick) (defBody st__law_pick) (defScope st__law_pick) .none kV3 dc3 pm3 an3 cd3 ct3), sl3⟩) (c3 : PySem.W.codeIn K cd3 "_law_pick" = true) (k3 : PySem.W.keepIn K (.ref f3) = true)
    (a4 : PySem.W.nsIn K mainGlobals "_law_roster" = some (some (.ref f4))) (l4 : K.lookup f4 = some ⟨oc4, od4, .func (PySem.W.fnOf "_law_roster" "_law_roster" (defArgs st__law_roster) (defBody st__law_roster) (defScope st__law_roster) .none kV4 dc4 pm4 an4 cd4 ct4), sl4⟩) (c4 : PySem.W.codeIn K cd4 "_law_roster" = true) (k4 : PySem.W.keepIn K (.ref f4) = true)
    (a5 : PySem.W.nsIn K mainGlobals "lessons_of" = some (some (.ref f5))) (l5 : K.lookup f5 = some ⟨oc5, od5, .func (PySem.W.fnOf "lessons_of" "lessons_of" (defArgs st_lessons_of) (defBody st_lessons_of) (defScope st_lessons_of) .none kV5 dc5 pm5 an5 cd5 ct5), sl5⟩) (c5 : PySem.W.codeIn K cd5 "lessons_of" = true) (k5 : PySem.W.keepIn K (.ref f5) = true)
    (a6 : PySem.W.nsIn K mainGlobals "degrees" = some (some (.ref f6))) (l6 : K.lookup f6 = some ⟨oc6, od6, .func (PySem.W.fnOf "degrees" "degrees" (defArgs st_degrees) (defBody st_degrees) (defScope st_degrees) .none kV6 dc6 pm6 an6 cd6 ct6), sl6⟩) (c6 : PySem.W.codeIn K cd6 "degrees" = true) (k6 : PySem.W.keepIn K (.ref f6) = true)
    (a7 : PySem.W.nsIn K mainGlobals "bounds_of" = some (some (.ref f7))) (l7 : K.lookup f7 = some ⟨oc7, od7, .func (PySem.W.fnOf "bounds_of" "bounds_of" (defArgs st_bounds_of) (defBody st_bounds_of) (defScope st_bounds_of) .none kV7 dc7 pm7 an7 cd7 ct7), sl7⟩) (c7 : PySem.W.codeIn K cd7 "bounds_of" = true) (k7 : PySem.W.keepIn K (.ref f7) = true)
    (a8 : PySem.W.nsIn K mainGlobals "are_rivals" = some (some (.ref f8))) (l8 : K.lookup f8 = some ⟨oc8, od8, .func (PySem.W.fnOf "are_rivals" "are_rivals" (defArgs st_are_rivals) (defBody st_are_rivals) (defScope st_are_rivals) .none kV8 dc8 pm8 an8 cd8 ct8), sl8⟩) (c8 : PySem.W.codeIn K cd8 "are_rivals" = true) (k8 : PySem.W.keepIn K (.ref f8) = true)
    (a9 : PySem.W.nsIn K mainGlobals "rivals" = some (some (.ref f9))) (l9 : K.lookup f9 = some ⟨oc9, od9, .func (PySem.W.fnOf "rivals" "rivals" (defArgs st_rivals) (defBody st_rivals) (defScope st_rivals) .none kV9 dc9 pm9 an9 cd9 ct9), sl9⟩) (c9 : PySem.W.codeIn K cd9 "rivals" = true) (k9 : PySem.W.keepIn K (.ref f9) = true)
    (a10 : PySem.W.nsIn K mainGlobals "_law_rivals_right" = some (some (.ref f10))) (l10 : K.lookup f10 = some ⟨oc10, od10, .func (PySem.W.fnOf "_law_rivals_right" "_law_rivals_right" (defArgs st__law_rivals_right) (defBody st__law_rivals_right) (defScope st__law_rivals_right) .none kV10 dc10 pm10 an10 cd10 ct10), sl10⟩) (c10 : PySem.W.codeIn K cd10 "_law_rivals_right" = true) (k10 : PySem.W.keepIn K (.ref f10) = true)
    (a11 : PySem.W.nsIn K mainGlobals "_law_same" = some (some (.ref f11))) (l11 : K.lookup f11 = some ⟨oc11, od11, .func (PySem.W.fnOf "_law_same" "_law_same" (defArgs st__law_same) (defBody st__law_same) (defScope st__law_same) .none kV11 dc11 pm11 an11 cd11 ct11), sl11⟩) (c11 : PySem.W.codeIn K cd11 "_law_same" = true) (k11 : PySem.W.keepIn K (.ref f11) = true)
    (a12 : PySem.W.nsIn K mainGlobals "greatest_degree" = some (some (.ref f12))) (l12 : K.lookup f12 = some ⟨oc12, od12, .func (PySem.W.fnOf "greatest_degree" "greatest_degree" (defArgs st_greatest_degree) (defBody st_greatest_degree) (defScope st_greatest_degree) .none kV12 dc12 pm12 an12 cd12 ct12), sl12⟩) (c12 : PySem.W.codeIn K cd12 "greatest_degree" = true) (k12 : PySem.W.keepIn K (.ref f12) = true)
    (a13 : PySem.W.nsIn K mainGlobals "law" = some (some (.ref f13))) (l13 : K.lookup f13 = some ⟨oc13, od13, .func (PySem.W.fnOf "law" "law" (defArgs st_law) (defBody st_law) (defScope st_law) .none kV13 dc13 pm13 an13 cd13 ct13), sl13⟩) (c13 : PySem.W.codeIn K cd13 "law" = true) (k13 : PySem.W.keepIn K (.ref f13) = true)
    (z_abs : PySem.W.nsIn K mainGlobals "abs" = some none)
    (z_len : PySem.W.nsIn K mainGlobals "len" = some none)
    (z_range : PySem.W.nsIn K mainGlobals "range" = some none)
    (z_tuple : PySem.W.nsIn K mainGlobals "tuple" = some none)
    (z_enumerate : PySem.W.nsIn K mainGlobals "enumerate" = some none)
    (z_max : PySem.W.nsIn K mainGlobals "max" = some none)
    (z_repr : PySem.W.nsIn K mainGlobals "repr" = some none)
    (z_sum : PySem.W.nsIn K mainGlobals "sum" = some none)
    (z_int : PySem.W.nsIn K mainGlobals "int" = some none) :
    ∃ fd : FuncData, (∀ (s : Shared) (v : Value), BindsTo s fd ⟨[v], []⟩ [("_law_script", v)]) ∧ ∀ base : Heap, K.In base → base.Ns mainGlobals mg → FnG l.prog w K mg base 5 fa fd ["_law_script"] (spD K [.q] .s F_law) := by
  have e := hfa.symm.trans (PySem.W.mg_of X G a13)
  cases e
  have F1 := fun_mk (st := st__law_state) l1 c1 k1
  have b1 := F1.binds (ps := ["_law_script"]) fun _ _ _ _ _ _ us hl => match us, hl with | [_], _ => rfl
  have F2 := fun_mk (st := st__law_draw) l2 c2 k2
  have b2 := F2.binds (ps := ["_law_state_here", "_law_limit"]) fun _ _ _ _ _ _ us hl => match us, hl with | [_, _], _ => rfl
  have F3 := fun_mk (st := st__law_pick) l3 c3 k3
  have b3 := F3.binds (ps := ["_law_state_here", "_law_items"]) fun _ _ _ _ _ _ us hl => match us, hl with | [_, _], _ => rfl
  have F4 := fun_mk (st := st__law_roster) l4 c4 k4
  have b4 := F4.binds (ps := ["_law_state_here", "_law_people", "_law_most"]) fun _ _ _ _ _ _ us hl => match us, hl with | [_, _, _], _ => rfl
  have F5 := fun_mk (st := st_lessons_of) l5 c5 k5
  have b5 := F5.binds (ps := ["roster", "side", "person"]) fun _ _ _ _ _ _ us hl => match us, hl with | [_, _, _], _ => rfl
  have F6 := fun_mk (st := st_degrees) l6 c6 k6
  have b6 := F6.binds (ps := ["roster"]) fun _ _ _ _ _ _ us hl => match us, hl with | [_], _ => rfl
  have F7 := fun_mk (st := st_bounds_of) l7 c7 k7
  have b7 := F7.binds (ps := ["roster"]) fun _ _ _ _ _ _ us hl => match us, hl with | [_], _ => rfl
  have F8 := fun_mk (st := st_are_rivals) l8 c8 k8
  have b8 := F8.binds (ps := ["roster", "one", "other"]) fun _ _ _ _ _ _ us hl => match us, hl with | [_, _, _], _ => rfl
  have F9 := fun_mk (st := st_rivals) l9 c9 k9
  have b9 := F9.binds (ps := ["roster", "lesson"]) fun _ _ _ _ _ _ us hl => match us, hl with | [_, _], _ => rfl
  have F10 := fun_mk (st := st__law_rivals_right) l10 c10 k10
  have b10 := F10.binds (ps := ["_law_roster_here"]) fun _ _ _ _ _ _ us hl => match us, hl with | [_], _ => rfl
  have F11 := fun_mk (st := st__law_same) l11 c11 k11
  have b11 := F11.binds (ps := ["_law_found", "_law_due"]) fun _ _ _ _ _ _ us hl => match us, hl with | [_, _], _ => rfl
  have F12 := fun_mk (st := st_greatest_degree) l12 c12 k12
  have b12 := F12.binds (ps := ["roster"]) fun _ _ _ _ _ _ us hl => match us, hl with | [_], _ => rfl
  have F13 := fun_mk (st := st_law) l13 c13 k13
  refine ⟨PySem.W.fnOf "law" "law" (defArgs st_law) (defBody st_law) (defScope st_law) .none kV13 dc13 pm13 an13 cd13 ct13, fun s v => .of_eq rfl, fun base _ _ => ?_⟩
  have y_abs := PySem.W.mg_none_of X G z_abs
  have y_len := PySem.W.mg_none_of X G z_len
  have y_range := PySem.W.mg_none_of X G z_range
  have y_tuple := PySem.W.mg_none_of X G z_tuple
  have y_enumerate := PySem.W.mg_none_of X G z_enumerate
  have y_max := PySem.W.mg_none_of X G z_max
  have y_repr := PySem.W.mg_none_of X G z_repr
  have y_sum := PySem.W.mg_none_of X G z_sum
  have y_int := PySem.W.mg_none_of X G z_int
  have C__law_state := cal__law_state (P := l.prog) (w := w) (base := base) y_abs y_len F1 (PySem.W.mg_of X G a1) b1
  have C__law_draw := cal__law_draw (P := l.prog) (w := w) (base := base) y_len F2 (PySem.W.mg_of X G a2) b2
  have C__law_pick := cal__law_pick (P := l.prog) (w := w) (base := base) C__law_draw y_len F3 (PySem.W.mg_of X G a3) b3
  have C__law_roster := cal__law_roster (P := l.prog) (w := w) (base := base) C__law_draw C__law_pick y_range y_tuple F4 (PySem.W.mg_of X G a4) b4
  have C_lessons_of := cal_lessons_of (P := l.prog) (w := w) (base := base) y_enumerate F5 (PySem.W.mg_of X G a5) b5
  have C_degrees := cal_degrees (P := l.prog) (w := w) (base := base) C_lessons_of y_tuple y_range y_len F6 (PySem.W.mg_of X G a6) b6
  have C_bounds_of := cal_bounds_of (P := l.prog) (w := w) (base := base) C_degrees y_tuple y_max F7 (PySem.W.mg_of X G a7) b7
  have C_are_rivals := cal_are_rivals (P := l.prog) (w := w) (base := base)  F8 (PySem.W.mg_of X G a8) b8
  have C_rivals := cal_rivals (P := l.prog) (w := w) (base := base) C_are_rivals y_tuple y_range y_len F9 (PySem.W.mg_of X G a9) b9
  have C__law_rivals_right := cal__law_rivals_right (P := l.prog) (w := w) (base := base) C_bounds_of C_rivals y_range y_len y_enumerate F10 (PySem.W.mg_of X G a10) b10
  have C__law_same := cal__law_same (P := l.prog) (w := w) (base := base) y_repr F11 (PySem.W.mg_of X G a11) b11
  have C_greatest_degree := cal_greatest_degree (P := l.prog) (w := w) (base := base) C_degrees y_max F12 (PySem.W.mg_of X G a12) b12
  exact fn_law C__law_state C__law_roster C_degrees C__law_rivals_right C__law_draw C__law_same C_bounds_of C_greatest_degree C_rivals y_range y_sum y_len y_enumerate y_int y_tuple F13
end LK

open PySem PySem.W PyProof.Rows
set_option maxHeartbeats 0 in
theorem PySem.Challenge.cw_listedges_k09_whole_degrees_add_up_holds : PySem.Challenge.rw_listedges_k09_whole_degrees_add_up.Holds := by
  w_on; o_law; k_head; (case hw => w_witness2)
  k_fill
  refine DL.walk_ofG (l := PySem.Challenge.rw_listedges_k09_whole_degrees_add_up) (n := 63) (k := 5) (x := "_law_script") (Fn := LK.F_law) rfl (by decide) rfl ⟨rfl, by decide, by decide⟩ (fun w h Y => PySem.W.kIn_of Y) ?F (fun ns h => LK.law_true ns h)
  case F =>
    intro w mg fa h KX G hmg
    refine' LK.all_mk KX G hmg ?a1 ?l1 ?c1 ?k1 ?a2 ?l2 ?c2 ?k2 ?a3 ?l3 ?c3 ?k3 ?a4 ?l4 ?c4 ?k4 ?a5 ?l5 ?c5 ?k5 ?a6 ?l6 ?c6 ?k6 ?a7 ?l7 ?c7 ?k7 ?a8 ?l8 ?c8 ?k8 ?a9 ?l9 ?c9 ?k9 ?a10 ?l10 ?c10 ?k10 ?a11 ?l11 ?c11 ?k11 ?a12 ?l12 ?c12 ?k12 ?a13 ?l13 ?c13 ?k13 ?z_abs ?z_len ?z_range ?z_tuple ?z_enumerate ?z_max ?z_repr ?z_sum ?z_int
    (case a1 => k_is); (case l1 => k_is); (case c1 => k_is); (case k1 => k_is); (case a2 => k_is); (case l2 => k_is); (case c2 => k_is); (case k2 => k_is); (case a3 => k_is); (case l3 => k_is); (case c3 => k_is); (case k3 => k_is); (case a4 => k_is); (case l4 => k_is); (case c4 => k_is); (case k4 => k_is); (case a5 => k_is); (case l5 => k_is); (case c5 => k_is); (case k5 => k_is); (case a6 => k_is); (case l6 => k_is); (case c6 => k_is); (case k6 => k_is); (case a7 => k_is); (case l7 => k_is); (case c7 => k_is); (case k7 => k_is); (case a8 => k_is); (case l8 => k_is); (case c8 => k_is); (case k8 => k_is); (case a9 => k_is); (case l9 => k_is); (case c9 => k_is); (case k9 => k_is); (case a10 => k_is); (case l10 => k_is); (case c10 => k_is); (case k10 => k_is); (case a11 => k_is); (case l11 => k_is); (case c11 => k_is); (case k11 => k_is); (case a12 => k_is); (case l12 => k_is); (case c12 => k_is); (case k12 => k_is); (case a13 => k_is); (case l13 => k_is); (case c13 => k_is); (case k13 => k_is); (case z_abs => k_is); (case z_len => k_is); (case z_range => k_is); (case z_tuple => k_is); (case z_enumerate => k_is); (case z_max => k_is); (case z_repr => k_is); (case z_sum => k_is); (case z_int => k_is)
