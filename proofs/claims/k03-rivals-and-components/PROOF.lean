import PyProof.Rows.All
import Wide.All
import OpenK.AllK
import Wide.FinOn
import HandS.ForMost
import HandS.IsInst
import HandS.TupAny
import HandS.TupMul
import HandS.Wide
import HandS.Conv
import HandS.List
import HandS.SortInts
import HandS.Walk
import HandS.Zip
import HandS.Rev
import KE.DataMinMax
import KE.DataAny
import KE.DataFind
import KE.DataIsa
import KE.DataCmp
import KE.DataEq
import KE.SortData
import KE.DatumIndex
import KE.KTupSum
import KE.GoesEnum
import HandS.Style
import HandS.RaiseMore
import HandS.Flow
import HandS.Dict
import HandS.SetFor
import HandS.DictComp
import HandS.Iter
import KE.GoesMore
import HandS.NoneIn
import HandS.ExcInit
import HandS.ExcField
import HandS.ExcOwn
import HandS.WordsExc
import HandS.TryOnly
import HandS.TryMany
import KE.KExcIs
import HandS.ExcIs
import KE.KDictList
import PySem.Challenge.RW_listedges_k03_rivals_and_components
set_option Elab.async false
set_option linter.all false
set_option maxRecDepth 100000
set_option maxHeartbeats 4000000
namespace DL
open PySem L2 PySem.Spec

/-! ### ownership types, stable data -/
inductive Ty where
  | u | s | q | d | l (t : Ty) | r (ts : List Ty) | e (a : Addr) (dx : Option Addr) (fs : List (Str × V)) (c : Str) | k (v : V) (t : Ty) | a (v : V)

/-- a tuple whose object is known to have no dict of its own -/
def NdT (K : PySem.W.Frag) (G : Hp) (a : Addr) (xs : List V) : Prop :=
  (∃ o : Obj, o.cls = .type "tuple" ∧ o.dict = none ∧ G a = some (.frz o (.tup xs))) ∨
    ∃ (o : Obj) (its : Array Value) (n : Nat), K.lookup a = some o ∧ o.cls = .type "tuple" ∧ o.dict = none ∧ o.data = .seq its n ∧ its.size ≤ sizeLine ∧ Vals xs its.toList
theorem NdT.sq {K : PySem.W.Frag} {G : Hp} {a : Addr} {xs : List V} (h : NdT K G a xs) : SqT K G a xs := by
  rcases h with ⟨o, _, _, h⟩ | ⟨o, its, n, h1, h2, _, h3, h4, h5⟩
  · exact .inl (.inr ⟨o, h⟩)
  · exact .inr ⟨o, its, n, h1, h2, h3, h4, h5⟩
/-- a new tuple -/
def NewT (H : Hp) (xs : List V) (Q : VK) : Prop := ∀ (p : Addr) (o : Obj), o.cls = .type "tuple" → o.dict = none → H p = none → Q (.ref p) (upd H p (.frz o (.tup xs)))
/-- stable data: read off the kept heap G; every length within the line -/
inductive Dq (K : PySem.W.Frag) (G : Hp) : V → PyData → Prop
  | non : Dq K G .non .none
  | bl (b : Bool) : Dq K G (.bl b) (.bool b)
  | int (i : Int) : Dq K G (.int i) (.int i)
  | str (x : Str) : x.length ≤ sizeLine → Dq K G (.str x) (.str x)
  | lst {a : Addr} {xs : List V} {ds : List PyData} : Rd G a (.lst xs) → xs.length = ds.length → xs.length ≤ sizeLine → (∀ (i : Nat) (v : V) (d : PyData), xs[i]? = some v → ds[i]? = some d → Dq K G v d) → Dq K G (.ref a) (.list ds)
  | tup {a : Addr} {xs : List V} {ds : List PyData} : NdT K G a xs → xs.length = ds.length → xs.length ≤ sizeLine → (∀ (i : Nat) (v : V) (d : PyData), xs[i]? = some v → ds[i]? = some d → Dq K G v d) → Dq K G (.ref a) (.tuple ds)
  | dic {a : Addr} {kvs : List (Str × Int)} : Rd G a (.dK (kvs.map fun p => (Sum.inr p.1, V.int p.2))) → kvs.length ≤ 15 → Dq K G (.ref a) (.dict (kvs.map fun p => (.str p.1, .int p.2)))

def DqA (K : PySem.W.Frag) (G : Hp) (xs : List V) (ds : List PyData) : Prop := xs.length = ds.length ∧ ∀ (i : Nat) (v : V) (d : PyData), xs[i]? = some v → ds[i]? = some d → Dq K G v d

section
variable {K : PySem.W.Frag} {G G' H H' : Hp}

theorem same_rd {a : Addr} {u : HO} (e : Same G G') (h : Rd G a u) : Rd G' a u := by
  rcases h with h | ⟨o, h⟩
  · exact .inl (e _ _ h)
  · exact .inr ⟨o, e _ _ h⟩
theorem same_seqT {a : Addr} {xs : List V} (e : Same G G') (h : SqT K G a xs) : SqT K G' a xs := by
  rcases h with (h | ⟨o, h⟩) | h
  · exact .inl (.inl (e _ _ h))
  · exact .inl (.inr ⟨o, e _ _ h⟩)
  · exact .inr h

theorem same_ndT {a : Addr} {xs : List V} (e : Same G G') (h : NdT K G a xs) : NdT K G' a xs := by
  rcases h with ⟨o, h1, h2, h⟩ | h
  · exact .inl ⟨o, h1, h2, e _ _ h⟩
  · exact .inr h
theorem same_seqL {a : Addr} {xs : List V} (e : Same G G') (h : SqL K G a xs) : SqL K G' a xs := h.imp (same_rd e) id
theorem Dq.mono (e : Same G G') {v : V} {d : PyData} (h : Dq K G v d) : Dq K G' v d := by
  induction h with
  | non => exact .non
  | bl b => exact .bl b
  | int i => exact .int i
  | str x hx => exact .str x hx
  | lst hs hl hz _ ih => exact .lst (same_rd e hs) hl hz ih
  | tup hs hl hz _ ih => exact .tup (same_ndT e hs) hl hz ih
  | dic hs hz => exact .dic (same_rd e hs) hz

theorem DqA.mono (e : Same G G') {xs : List V} {ds : List PyData} (h : DqA K G xs ds) : DqA K G' xs ds := ⟨h.1, fun i v d a b => (h.2 i v d a b).mono e⟩

theorem DqA.nil : DqA K G [] [] := ⟨rfl, fun i v d h _ => by simp at h⟩
theorem DqA.cons {v : V} {d : PyData} {vs : List V} {ds : List PyData} (h : Dq K G v d) (t : DqA K G vs ds) : DqA K G (v :: vs) (d :: ds) := by
  refine ⟨by simp [t.1], fun i x y hx hy => ?_⟩
  cases i with
  | zero => simp at hx hy; subst hx; subst hy; exact h
  | succ i => simp at hx hy; exact t.2 i x y hx hy
theorem DqA.head {v : V} {d : PyData} {vs : List V} {ds : List PyData} (h : DqA K G (v :: vs) (d :: ds)) : Dq K G v d := h.2 0 v d rfl rfl
theorem DqA.tail {v : V} {d : PyData} {vs : List V} {ds : List PyData} (h : DqA K G (v :: vs) (d :: ds)) : DqA K G vs ds :=
  ⟨by have := h.1; simpa using this, fun i x y hx hy => h.2 (i + 1) x y (by simpa using hx) (by simpa using hy)⟩
theorem DqA.append {vs ws : List V} {ds es : List PyData} (h : DqA K G vs ds) (t : DqA K G ws es) : DqA K G (vs ++ ws) (ds ++ es) := by
  refine ⟨by simp [h.1, t.1], fun i x y hx hy => ?_⟩
  by_cases hi : i < vs.length
  · rw [List.getElem?_append_left hi] at hx
    rw [List.getElem?_append_left (by rw [← h.1]; exact hi)] at hy
    exact h.2 i x y hx hy
  · rw [List.getElem?_append_right (by omega)] at hx
    rw [List.getElem?_append_right (by rw [← h.1]; omega), ← h.1] at hy
    exact t.2 _ x y hx hy
theorem DqA.get {vs : List V} {ds : List PyData} (h : DqA K G vs ds) {i : Nat} {d : PyData} (e : ds[i]? = some d) : ∃ v, vs[i]? = some v ∧ Dq K G v d := by
  have hi : i < vs.length := by rw [h.1]; exact (List.getElem?_eq_some_iff.mp e).1
  exact ⟨vs[i], List.getElem?_eq_getElem hi, h.2 i _ _ (List.getElem?_eq_getElem hi) e⟩
end

mutual
/-- t owned: its own lists at A, the rest stable in G -/
inductive Own (K : PySem.W.Frag) (G H : Hp) : Ty → PyData → Option V → List Addr → Prop
  | u (d : PyData) (v : Option V) : Own K G H .u d v []
  | s {d : PyData} {v : V} : Dq K G v d → Own K G H .s d (some v) []
  | q {a : Addr} {ns : List Int} : SqL K G a (ns.map V.int) → ns.length ≤ sizeLine → Own K G H .q (.list (ns.map PyData.int)) (some (.ref a)) []
  | d {a : Addr} {kvs : List (Int × V)} {ds : List (Int × PyData)} : G a = none → H a = some (.dK (kvs.map fun p => ((Sum.inl p.1 : Key), p.2))) → kvs.map (·.1) = ds.map (·.1) → DqA K G (kvs.map (·.2)) (ds.map (·.2)) → kvs.length ≤ sizeLine → Own K G H .d (.dict (ds.map fun p => (.int p.1, p.2))) (some (.ref a)) [a]
  | l {t : Ty} {a : Addr} {vs : List V} {ds : List PyData} {A : List Addr} : G a = none → H a = some (.lst vs) → vs.length ≤ sizeLine → OwnA K G H (List.replicate ds.length t) ds (vs.map some) A → Own K G H (.l t) (.list ds) (some (.ref a)) (a :: A)
  | r {ts : List Ty} {a : Addr} {vs : List V} {ds : List PyData} {A : List Addr} : G a = none → H a = some (.lst vs) → vs.length ≤ sizeLine → OwnA K G H ts ds (vs.map some) A → Own K G H (.r ts) (.list ds) (some (.ref a)) (a :: A)
  | e {a : Addr} {dx : Option Addr} {fs : List (Str × V)} {c : Str} {ds : List PyData} : (∀ x, dx = some x → G x = some (.xd fs)) → DqA K G (fs.map (·.2)) ds → Own K G H (.e a dx fs c) (.tuple (.str c :: ds)) (some (.ref a)) []
  | k {t : Ty} {d : PyData} {v : V} {A : List Addr} : Own K G H t d (some v) A → Own K G H (.k v t) d (some v) A
  | a (d : PyData) (v : V) : Own K G H (.a v) d (some v) []
inductive OwnA (K : PySem.W.Frag) (G H : Hp) : List Ty → List PyData → List (Option V) → List Addr → Prop
  | nil : OwnA K G H [] [] [] []
  | cons {t : Ty} {ts : List Ty} {d : PyData} {ds : List PyData} {v : Option V} {vs : List (Option V)} {A B : List Addr} : Own K G H t d v A → OwnA K G H ts ds vs B → OwnA K G H (t :: ts) (d :: ds) (v :: vs) (A ++ B)
end

section
variable {K : PySem.W.Frag} {G G' H H' : Hp}
/-- owned addresses stand in H, not in G -/
theorem own_at {t : Ty} {d : PyData} {v : Option V} {A : List Addr} (h : Own K G H t d v A) : ∀ a ∈ A, G a = none ∧ ∃ o, H a = some o := by
  refine Own.rec (K := K) (G := G) (H := H) (motive_1 := fun t d v A _ => ∀ a ∈ A, G a = none ∧ ∃ o, H a = some o) (motive_2 := fun ts ds vs A _ => ∀ a ∈ A, G a = none ∧ ∃ o, H a = some o) ?_ ?_ ?_ ?_ ?_ ?_ ?_ ?_ ?_ ?_ ?_ h
  · intro d v a ha; cases ha
  · intro d v _ a ha; cases ha
  · intro a ns _ _ b hb; cases hb
  · intro a kvs ds h1 h2 _ _ _ b hb
    rw [List.mem_singleton.mp hb]
    exact ⟨h1, _, h2⟩
  · intro t a vs ds A h1 h2 _ _ ih b hb
    rcases List.mem_cons.mp hb with rfl | hb
    · exact ⟨h1, _, h2⟩
    · exact ih b hb
  · intro t a vs ds A h1 h2 _ _ ih b hb
    rcases List.mem_cons.mp hb with rfl | hb
    · exact ⟨h1, _, h2⟩
    · exact ih b hb
  · intro a dx fs c ds _ _ b hb; cases hb
  · intro t d v A _ ih; exact ih
  · intro d v b hb; cases hb
  · intro a ha; cases ha
  · intro t ts d ds v vs A B _ _ i1 i2 a ha
    rcases List.mem_append.mp ha with ha | ha
    · exact i1 a ha
    · exact i2 a ha
theorem ownA_at {t : List Ty} {d : List PyData} {v : List (Option V)} {A : List Addr} (h : OwnA K G H t d v A) : ∀ a ∈ A, G a = none ∧ ∃ o, H a = some o := by
  induction t generalizing d v A with
  | nil => cases h; intro a ha; cases ha
  | cons t ts ih =>
    cases h with
    | cons h1 h2 =>
      intro a ha
      rcases List.mem_append.mp ha with ha | ha
      · exact own_at h1 a ha
      · exact ih h2 a ha
/-- framing -/
theorem own_fr {t : Ty} {d : PyData} {v : Option V} {A : List Addr} (h : Own K G H t d v A) (e : Same G G') (hg : ∀ a ∈ A, G' a = none) (hh : ∀ a ∈ A, H' a = H a) : Own K G' H' t d v A := by
  refine Own.rec (K := K) (G := G) (H := H) (motive_1 := fun t d v A _ => (∀ a ∈ A, G' a = none) → (∀ a ∈ A, H' a = H a) → Own K G' H' t d v A) (motive_2 := fun t d v A _ => (∀ a ∈ A, G' a = none) → (∀ a ∈ A, H' a = H a) → OwnA K G' H' t d v A) ?_ ?_ ?_ ?_ ?_ ?_ ?_ ?_ ?_ ?_ ?_ h hg hh
  · intro d v _ _; exact .u d v
  · intro d v h _ _; exact .s (h.mono e)
  · intro a ns h hz _ _; exact .q (same_seqL e h) hz
  · intro a kvs ds h1 h2 hk q hz hg hh
    exact .d (hg a (List.mem_singleton.mpr rfl)) (by rw [hh a (List.mem_singleton.mpr rfl)]; exact h2) hk (q.mono e) hz
  · intro t a vs ds A h1 h2 hz _ ih hg hh
    exact .l (hg a (List.mem_cons_self ..)) (by rw [hh a (List.mem_cons_self ..)]; exact h2) hz (ih (fun b hb => hg b (List.mem_cons_of_mem _ hb)) fun b hb => hh b (List.mem_cons_of_mem _ hb))
  · intro t a vs ds A h1 h2 hz _ ih hg hh
    exact .r (hg a (List.mem_cons_self ..)) (by rw [hh a (List.mem_cons_self ..)]; exact h2) hz (ih (fun b hb => hg b (List.mem_cons_of_mem _ hb)) fun b hb => hh b (List.mem_cons_of_mem _ hb))
  · intro a dx fs c ds h1 h2 _ _
    exact .e (fun x hx => e _ _ (h1 x hx)) (h2.mono e)
  · intro t d v A _ ih hg hh; exact .k (ih hg hh)
  · intro d v _ _; exact .a d v
  · intro _ _; exact .nil
  · intro t ts d ds v vs A B _ _ i1 i2 hg hh
    exact .cons (i1 (fun b hb => hg b (List.mem_append_left _ hb)) fun b hb => hh b (List.mem_append_left _ hb)) (i2 (fun b hb => hg b (List.mem_append_right _ hb)) fun b hb => hh b (List.mem_append_right _ hb))
theorem ownA_fr {t : List Ty} {d : List PyData} {v : List (Option V)} {A : List Addr} (h : OwnA K G H t d v A) (e : Same G G') (hg : ∀ a ∈ A, G' a = none) (hh : ∀ a ∈ A, H' a = H a) : OwnA K G' H' t d v A := by
  induction t generalizing d v A with
  | nil => cases h; exact .nil
  | cons t ts ih =>
    cases h with
    | cons h1 h2 =>
      exact .cons (own_fr h1 e (fun b hb => hg b (List.mem_append_left _ hb)) fun b hb => hh b (List.mem_append_left _ hb)) (ih h2 (fun b hb => hg b (List.mem_append_right _ hb)) fun b hb => hh b (List.mem_append_right _ hb))
theorem ownA_len {t : List Ty} {d : List PyData} {v : List (Option V)} {A : List Addr} (h : OwnA K G H t d v A) : t.length = d.length ∧ v.length = d.length := by
  induction t generalizing d v A with
  | nil => cases h; exact ⟨rfl, rfl⟩
  | cons t ts ih =>
    cases h with
    | cons h1 h2 =>
      obtain ⟨a, b⟩ := ih h2
      simp only [List.length_cons]
      omega
/-- the kept heap with the owned addresses of H laid in -/
def lay (G H : Hp) (A : List Addr) : Hp := fun a => if a ∈ A then H a else G a
theorem lay_in {A : List Addr} {a : Addr} (h : a ∈ A) : lay G H A a = H a := by unfold lay; rw [if_pos h]
theorem lay_out {A : List Addr} {a : Addr} (h : a ∉ A) : lay G H A a = G a := by unfold lay; rw [if_neg h]
end
mutual
/-- no unknown part -/
def nou : Ty → Bool
  | .u => false
  | .s => true
  | .q => false
  | .d => false
  | .l t => nou t
  | .r ts => nouL ts
  | .e _ _ _ _ => false
  | .k _ t => nou t
  | .a _ => false
def nouL : List Ty → Bool
  | [] => true
  | t :: ts => nou t && nouL ts
end
theorem nouL_rep {t : Ty} (h : nou t = true) : ∀ n : Nat, nouL (List.replicate n t) = true
  | 0 => rfl
  | n + 1 => by
    show (nou t && nouL (List.replicate n t)) = true
    rw [h, nouL_rep h n]; rfl
section
variable {K : PySem.W.Frag} {G G' H H' : Hp}
/-- frozen: owned data becomes stable data of the grown G -/
theorem own_frz {t : Ty} {d : PyData} {v : Option V} {A : List Addr} (h : Own K G H t d v A) (e : Same G G') (hg : ∀ a ∈ A, G' a = H a) (hn : nou t = true) : ∃ x, v = some x ∧ Dq K G' x d := by
  refine Own.rec (K := K) (G := G) (H := H) (motive_1 := fun t d v A _ => (∀ a ∈ A, G' a = H a) → nou t = true → ∃ x, v = some x ∧ Dq K G' x d)
    (motive_2 := fun t d v A _ => (∀ a ∈ A, G' a = H a) → nouL t = true → ∀ vs : List V, v = vs.map some → DqA K G' vs d) ?_ ?_ ?_ ?_ ?_ ?_ ?_ ?_ ?_ ?_ ?_ h hg hn
  · intro d v _ h; exact absurd h (by simp [nou])
  · intro d v h _ _; exact ⟨_, rfl, h.mono e⟩
  · intro a ns _ _ _ h; exact absurd h (by simp [nou])
  · intro a kvs ds _ _ _ _ _ _ h; exact absurd h (by simp [nou])
  · intro t a vs ds A h1 h2 hz _ ih hg hn
    have q := ih (fun b hb => hg b (List.mem_cons_of_mem _ hb)) (nouL_rep (by simpa [nou] using hn) _) vs rfl
    have ea : G' a = some (.lst vs) := by rw [hg a (List.mem_cons_self ..)]; exact h2
    exact ⟨_, rfl, .lst (.inl ea) q.1 hz q.2⟩
  · intro t a vs ds A h1 h2 hz _ ih hg hn
    have q := ih (fun b hb => hg b (List.mem_cons_of_mem _ hb)) (by simpa [nou] using hn) vs rfl
    have ea : G' a = some (.lst vs) := by rw [hg a (List.mem_cons_self ..)]; exact h2
    exact ⟨_, rfl, .lst (.inl ea) q.1 hz q.2⟩
  · intro a dx fs c ds _ _ _ h; exact absurd h (by simp [nou])
  · intro t d v A _ ih hg hn; exact ih hg (by simpa [nou] using hn)
  · intro d v _ h; exact absurd h (by simp [nou])
  · intro _ _ vs hv
    cases vs with
    | nil => exact DqA.nil
    | cons _ _ => cases hv
  · intro t ts d ds v vs A B _ _ i1 i2 hg hn ws hw
    cases ws with
    | nil => cases hw
    | cons x ws =>
      simp only [List.map_cons, List.cons.injEq] at hw
      obtain ⟨hx, hw⟩ := hw
      simp only [nouL, Bool.and_eq_true] at hn
      obtain ⟨y, hy, q⟩ := i1 (fun b hb => hg b (List.mem_append_left _ hb)) hn.1
      rw [hx] at hy
      cases hy
      exact DqA.cons q (i2 (fun b hb => hg b (List.mem_append_right _ hb)) hn.2 ws hw)

/-! ### states and steps -/
structure Stt (K : PySem.W.Frag) (m : List Ty) (G H : Hp) (σ : St) (e : List PyData) (A : List Addr) : Prop where
  own : OwnA K G H m e σ A
  nd : A.Nodup
  sub : Same G H
structure Step (A : List Addr) (G H : Hp) (B : List Addr) (G' H' : Hp) : Prop where
  sg : Same G G'
  fr : ∀ a o, H a = some o → a ∉ A → H' a = some o
  own : ∀ a ∈ B, a ∈ A ∨ H a = none
  gnew : ∀ a, G a = none → (∃ o, G' a = some o) → a ∈ A ∨ H a = none
theorem Step.refl {A : List Addr} : Step A G H A G H := ⟨Same.refl G, fun _ _ h _ => h, fun _ h => .inl h, fun a h ⟨o, e⟩ => by rw [h] at e; cases e⟩
theorem none_or (H : Hp) (a : Addr) : H a = none ∨ ∃ o, H a = some o := by
  cases h : H a with
  | none => exact .inl rfl
  | some o => exact .inr ⟨o, rfl⟩
theorem Step.back {A B : List Addr} (s : Step A G H B G' H') {a : Addr} (h : H' a = none) : a ∈ A ∨ H a = none := by
  by_cases ha : a ∈ A
  · exact .inl ha
  · rcases none_or H a with e | ⟨o, e⟩
    · exact .inr e
    · rw [s.fr a o e ha] at h; cases h
/-- a step from what a step left, a value at Av kept aside -/
theorem Step.seq {A Av A1 B : List Addr} {G1 H1 G2 H2 : Hp} (s1 : Step A G H (Av ++ A1) G1 H1) (o1 : ∀ a ∈ Av, G1 a = none ∧ ∃ o, H1 a = some o) (nd : (Av ++ A1).Nodup) (s2 : Step A1 G1 H1 B G2 H2) (ndB : B.Nodup) :
    Step A G H (Av ++ B) G2 H2 ∧ (Av ++ B).Nodup ∧ (∀ a ∈ Av, G2 a = none) ∧ ∀ a ∈ Av, H2 a = H1 a := by
  have dis : ∀ a ∈ Av, a ∉ A1 := fun a ha hb => (List.nodup_append.mp nd).2.2 a ha a hb rfl
  have key : ∀ a, a ∈ A1 ∨ H1 a = none → a ∈ A ∨ H a = none := fun a h => by
    rcases h with h | h
    · exact s1.own a (List.mem_append_right _ h)
    · exact s1.back h
  refine ⟨⟨s1.sg.trans s2.sg, fun a o e ha => ?_, fun a ha => ?_, fun a e e2 => ?_⟩, ?_, fun a ha => ?_, fun a ha => ?_⟩
  · refine s2.fr a o (s1.fr a o e ha) fun hb => ?_
    rcases s1.own a (List.mem_append_right _ hb) with q | q
    · exact ha q
    · rw [e] at q; cases q
  · rcases List.mem_append.mp ha with ha | ha
    · exact s1.own a (List.mem_append_left _ ha)
    · exact key a (s2.own a ha)
  · rcases none_or G1 a with e1 | e1
    · exact key a (s2.gnew a e1 e2)
    · exact s1.gnew a e e1
  · refine List.nodup_append.mpr ⟨(List.nodup_append.mp nd).1, ndB, fun a ha b hb hab => ?_⟩
    subst hab
    rcases s2.own a hb with q | q
    · exact dis a ha q
    · obtain ⟨o, e⟩ := (o1 a ha).2
      rw [e] at q; cases q
  · rcases none_or G2 a with e | e
    · exact e
    · rcases s2.gnew a (o1 a ha).1 e with q | q
      · exact absurd q (dis a ha)
      · obtain ⟨o, e⟩ := (o1 a ha).2
        rw [e] at q; cases q
  · obtain ⟨o, e⟩ := (o1 a ha).2
    rw [e, s2.fr a o e (dis a ha)]
theorem Step.seq0 {A A1 B : List Addr} {G1 H1 G2 H2 : Hp} (s1 : Step A G H A1 G1 H1) (s2 : Step A1 G1 H1 B G2 H2) : Step A G H B G2 H2 := by
  have key : ∀ a, a ∈ A1 ∨ H1 a = none → a ∈ A ∨ H a = none := fun a h => by
    rcases h with h | h
    · exact s1.own a h
    · exact s1.back h
  refine ⟨s1.sg.trans s2.sg, fun a o e ha => ?_, fun a ha => key a (s2.own a ha), fun a e e2 => ?_⟩
  · refine s2.fr a o (s1.fr a o e ha) fun hb => ?_
    rcases s1.own a hb with q | q
    · exact ha q
    · rw [e] at q; cases q
  · rcases none_or G1 a with e1 | e1
    · exact key a (s2.gnew a e1 e2)
    · exact s1.gnew a e e1
theorem Step.less {A B B' : List Addr} (s : Step A G H B G' H') (h : ∀ a ∈ B', a ∈ B) : Step A G H B' G' H' := ⟨s.sg, s.fr, fun a ha => s.own a (h a ha), s.gnew⟩

/-- a new stable object -/
theorem new_s {A : List Addr} {m : List Ty} {σ : St} {e : List PyData} {p : Addr} {o : HO} (st : Stt K m G H σ e A) (hp : H p = none) :
    Step A G H A (upd G p o) (upd H p o) ∧ Stt K m (upd G p o) (upd H p o) σ e A ∧ Same G (upd G p o) := by
  have gp : G p = none := st.sub.free hp
  have sg : Same G (upd G p o) := fun b x hx => by rw [upd_ne (ne_of_none hx gp)]; exact hx
  have nA : ∀ a ∈ A, a ≠ p := fun a ha q => by
    obtain ⟨_, o, e⟩ := ownA_at st.own a ha
    rw [q, hp] at e; cases e
  refine ⟨⟨sg, fun a x hx _ => by rw [upd_ne (ne_of_none hx hp)]; exact hx, fun a ha => .inl ha, fun a e1 ⟨x, e2⟩ => ?_⟩, ⟨ownA_fr st.own sg (fun a ha => ?_) (fun a ha => upd_ne (nA a ha)), st.nd, fun b x hx => ?_⟩, sg⟩
  · by_cases q : a = p
    · subst q; exact .inr hp
    · rw [upd_ne q, e1] at e2; cases e2
  · rw [upd_ne (nA a ha)]; exact (ownA_at st.own a ha).1
  · by_cases q : b = p
    · subst q; rw [upd_same] at hx ⊢; exact hx
    · rw [upd_ne q] at hx ⊢; exact st.sub b x hx
/-- a new owned object -/
theorem new_o {A B : List Addr} {m : List Ty} {σ : St} {e : List PyData} {p : Addr} {o : HO} (st : Stt K m G H σ e A) (hp : H p = none) :
    Step A G H (p :: A) G (upd H p o) ∧ Stt K m G (upd H p o) σ e A ∧ (p :: A).Nodup ∧ G p = none := by
  have gp : G p = none := st.sub.free hp
  have nA : ∀ a ∈ A, a ≠ p := fun a ha q => by
    obtain ⟨_, o, e⟩ := ownA_at st.own a ha
    rw [q, hp] at e; cases e
  refine ⟨⟨Same.refl G, fun a x hx _ => by rw [upd_ne (ne_of_none hx hp)]; exact hx, fun a ha => ?_, fun a e1 ⟨x, e2⟩ => by rw [e1] at e2; cases e2⟩,
    ⟨ownA_fr st.own (Same.refl G) (fun a ha => (ownA_at st.own a ha).1) (fun a ha => upd_ne (nA a ha)), st.nd, fun b x hx => ?_⟩, ?_, gp⟩
  · rcases List.mem_cons.mp ha with rfl | ha
    · exact .inr hp
    · exact .inl ha
  · rw [upd_ne (ne_of_none hx gp)]; exact st.sub b x hx
  · exact List.nodup_cons.mpr ⟨fun h => nA p h rfl, st.nd⟩
/-- what is owned is frozen: G grows by it -/
theorem frz {A Av : List Addr} {m : List Ty} {σ : St} {e : List PyData} (st : Stt K m G H σ e A) (hv : ∀ a ∈ Av, G a = none ∧ ∃ o, H a = some o) (nd : (Av ++ A).Nodup) :
    Step (Av ++ A) G H A (lay G H Av) H ∧ Stt K m (lay G H Av) H σ e A ∧ Same G (lay G H Av) ∧ ∀ a ∈ Av, lay G H Av a = H a := by
  have dis : ∀ a ∈ A, a ∉ Av := fun a ha hb => (List.nodup_append.mp nd).2.2 a hb a ha rfl
  have sg : Same G (lay G H Av) := fun b x hx => by
    by_cases q : b ∈ Av
    · rw [(hv b q).1] at hx; cases hx
    · rw [lay_out q]; exact hx
  refine ⟨⟨sg, fun a o h _ => h, fun a ha => .inl (List.mem_append_right _ ha), fun a e1 ⟨o, e2⟩ => ?_⟩, ⟨ownA_fr st.own sg (fun a ha => ?_) (fun _ _ => rfl), st.nd, fun b x hx => ?_⟩, sg, fun a ha => lay_in ha⟩
  · by_cases q : a ∈ Av
    · exact .inl (List.mem_append_left _ q)
    · rw [lay_out q, e1] at e2; cases e2
  · rw [lay_out (dis a ha)]; exact (ownA_at st.own a ha).1
  · by_cases q : b ∈ Av
    · rw [lay_in q] at hx; exact hx
    · rw [lay_out q] at hx; exact st.sub b x hx
end
end DL

namespace DL
open PySem L2 PySem.Spec PyProof.Rows

/-! ### new tuples, their object known: it has no dict of its own -/
section
variable {X : Cx} {pins : List (Addr × Obj)} {σ : L2.St} {H : Hp} {s : Shared} {Q : VK} {xs : List V} {its : List Value} {tk : Nat}
theorem newT_ep (I : Inv X pins σ H s) (r : Vals xs its) (hz : xs.length ≤ sizeLine) (q : NewT H xs Q) : EP X pins σ Q (.ref s.heap.objs.size) { s with heap := s.heap.push { cls := .type "tuple", data := .seq its.toArray }, toks := s.toks } := by
  have hg : (s.heap.push { cls := .type "tuple", data := .seq its.toArray }).get? s.heap.objs.size = some { cls := .type "tuple", data := .seq its.toArray } := Heap.get?_push_size _ rfl
  exact ⟨.ref s.heap.objs.size, _, I.laid (t' := s.toks) (o := .frz { cls := .type "tuple", data := .seq its.toArray } (.tup xs)) (fun b ob e => Heap.get?_push_of_some _ e) (Nat.le_refl _) ⟨hg, hz, its, r, _, hg, rfl, _, rfl⟩, rfl, q _ { cls := .type "tuple", data := .seq its.toArray } rfl rfl (I.hok.fresh (Nat.le_refl _))⟩
def tTupN (t : TA) : TE := fun σ H Q => t σ H fun xs H1 => xs.length ≤ sizeLine ∧ NewT H1 xs Q
theorem pe_tupN {es : List Expr} {t : TA} {pos : Pos} {x1} (h : PA X es t) : PE X (.Tuple es x1 pos) (tTupN t) := by
  refine ⟨fun pins s σ H Q I hq => ?_⟩
  refine wpAny_Tuple_spliced (thn (h.run pos pins s σ H _ I hq) fun vs s2 ⟨ys, H2, I2, rr, zz, qq⟩ => ⟨by rw [← rr.length]; exact zz, ?_⟩)
  exact newT_ep I2 rr zz qq
def rCatN (K : PySem.W.Frag) : R2 := fun x y H Q => ∃ a b xs ys, x = .ref a ∧ y = .ref b ∧ SqT K H a xs ∧ SqT K H b ys ∧ xs.length + ys.length ≤ sizeLine ∧
  (xs = [] → Q (.ref b) H) ∧ (xs ≠ [] → ys = [] → Q (.ref a) H) ∧ (xs ≠ [] → ys ≠ [] → NewT H (xs ++ ys) Q)
theorem op_catN : OpR X (binaryOp .Add) (rCatN X.K) := by
  intro pins s σ H x y v u Q I rx ry h
  obtain ⟨a, b, xs, ys, rfl, rfl, ha, hb, hz, q0, q1, q2⟩ := h
  by_cases hx : xs = []
  · refine op_catA pins s σ H _ _ v u Q I rx ry ⟨a, b, xs, ys, rfl, rfl, ha, hb, hz, q0, fun z => absurd hx z, fun z => absurd hx z⟩
  · cases rx
    cases ry
    obtain ⟨is1, r1, p1, _⟩ := I.tuple ha
    obtain ⟨is2, r2, p2, _⟩ := I.tuple hb
    refine HT.cat_tup p1 p2 (fun z => hx (r1.nil_iff.mp z)) (fun z => ⟨.ref a, H, I, rfl, q1 hx (r2.nil_iff.mp z)⟩) (fun z => ?_) (by rw [← r1.length, ← r2.length]; exact hz)
    exact newT_ep I (r1.append r2) (by rw [List.length_append]; exact hz) (q2 hx fun w => z (r2.nil_iff.mpr w))
def rSlN (K : PySem.W.Frag) : V → Option Int → Option Int → Hp → VK → Prop := fun x lo hi H Q => ∃ a xs, x = .ref a ∧ SqT K H a xs ∧
  (HT.sIx xs.length 0 lo = 0 ∧ HT.sIx xs.length xs.length hi = xs.length → Q (.ref a) H) ∧ (¬ (HT.sIx xs.length 0 lo = 0 ∧ HT.sIx xs.length xs.length hi = xs.length) → NewT H (cutV xs lo hi) Q)
theorem sl_tupN : SlR X (rSlN X.K) := by
  intro pins s σ H x v vl vu lo hi sl Q I rx hs pl pu h
  obtain ⟨a, xs, rfl, hx, q1, q2⟩ := h
  by_cases hw : HT.sIx xs.length 0 lo = 0 ∧ HT.sIx xs.length xs.length hi = xs.length
  · exact sl_tupA pins s σ H _ v vl vu lo hi sl Q I rx hs pl pu ⟨a, xs, rfl, hx, q1, fun z => absurd hw z⟩
  · cases rx
    obtain ⟨is1, r1, ht, hz⟩ := I.tuple hx
    have hl : is1.toArray.size = xs.length := by rw [List.size_toArray]; exact r1.length.symm
    refine ⟨"tuple", _, PyProof.Rows.slot_tuple_getitem.lookup, ht.typeIs, ?_⟩
    refine HT.getItem_tuple_cut ht hs pl pu (by rw [hl]; exact hw) ?_ (by rw [hl]; exact hz)
    rw [hl]
    exact newT_ep I ((r1.drop (HT.sIx xs.length 0 lo)).take (HT.sIx xs.length xs.length hi - HT.sIx xs.length 0 lo)) (Nat.le_trans (cutV_length xs lo hi) hz) (q2 hw)
def rRepN (K : PySem.W.Frag) : R2 := fun x y H Q => ∃ l k xs, x = .ref l ∧ y = .int k ∧ SqT K H l xs ∧ xs ≠ [] ∧ 2 ≤ k ∧ k ≤ 1000 ∧ xs.length ≤ 1000 ∧ NewT H (List.replicate k.toNat xs).flatten Q
theorem op_repN : OpR X (binaryOp .Mult) (rRepN X.K) := by
  intro pins s σ H x y v u Q I rx ry h
  obtain ⟨l, n0, xs, rfl, rfl, hT, hne, h1, h2, hz, q⟩ := h
  cases rx
  obtain ⟨t, rfl⟩ := ry
  obtain ⟨is1, r1, ⟨⟨cls, dc, data, sl⟩, ho, hc, n, hd⟩, hs⟩ := I.tuple hT
  simp only at hc hd
  subst hc hd
  have ln : is1.length = xs.length := r1.length.symm
  have ne1 : is1.toArray.isEmpty = false := by
    cases is1 with
    | nil => exact absurd (List.eq_nil_of_length_eq_zero ln.symm) hne
    | cons a b => rfl
  have sz : is1.toArray.size = xs.length := by rw [List.size_toArray, ln]
  have hm : ((is1.toArray.size : Nat) : Int) * n0 ≤ 1000000 := by
    rw [sz]
    have : ((xs.length : Nat) : Int) * n0 ≤ 1000 * n0 := Int.mul_le_mul_of_nonneg_right (by omega) (by omega)
    omega
  have fl : (List.replicate n0.toNat is1).flatten.length ≤ sizeLine := by
    rw [PyProof.Rows.lm_len_rep_flat, ln, sizeLine_eq]
    have : n0.toNat * xs.length ≤ 1000 * 1000 := Nat.mul_le_mul (by omega) hz
    omega
  have g0 : (decide (n0 < -(2 ^ 63)) || decide (n0 ≥ 2 ^ 63)) = false := by
    rw [decide_eq_false (by omega), decide_eq_false (by omega)]; rfl
  have g1 : (is1.toArray.isEmpty || n0 == 1) = false := by
    rw [ne1, Bool.false_or]; exact beq_eq_false_iff_ne.mpr (by omega)
  have g2 : (decide (n0 ≤ 0) || is1.toArray.isEmpty) = false := by
    rw [ne1, Bool.or_false]; exact decide_eq_false (by omega)
  have g4 : Builtin.Tuple.tupleTooMany (((is1.toArray.size : Nat) : Int) * n0) = false := by
    unfold Builtin.Tuple.tupleTooMany
    rw [sizeLine_eq]; exact decide_eq_false (by omega)
  have g3 : ¬ ((is1.toArray.size : Nat) : Int) * n0 > (2 ^ 63 - 1) / 8 := by omega
  have fz : (List.replicate n0.toNat xs).flatten.length ≤ sizeLine := by
    rw [PyProof.Rows.lm_len_rep_flat] at fl ⊢
    rw [← ln]; exact fl
  have W := tuple_mulW l is1.toArray n dc sl n0 t g0 g1 g2 g3 g4 (by rw [size_rep, List.size_toArray]; exact fl)
  refine wpAny_binaryOp_repeat_ref (T := "tuple") (U := "int") (by decide) ⟨_, ho, rfl⟩ (fun s1 => typeIs_int s1 n0 t) noFill_tuple_mul F.fills_int_mul F.slot_int_rmul repeat_tuple F.slot_int_index.lookup ?_
  refine call_meets F.slot_int_rmul (typeIs_int s n0 t) F.entry_int_rmul (F.args_int_rmul_2 _ _) (int_rmul_tuple n0 t l is1.toArray n dc sl) ⟨ho, rfl, ⟨_, ho, rfl⟩, ?_⟩
  refine call_meets F.slot_tuple_mul ⟨_, ho, rfl⟩ F.entry_tuple_mul (F.args_tuple_mul_2 _ _) W ⟨ho, ?_⟩
  rw [size_rep]
  exact newT_ep I (r1.rep n0.toNat) fz q
/-- tuple(x) -/
theorem call_tuple_ofN : CallR X (.type "tuple") (fun vs H Q => ∃ p ys, vs = [.ref p] ∧ ((SqL X.K H p ys ∧ NewT H ys Q) ∨ (SqT X.K H p ys ∧ Q (.ref p) H))) := by
  intro pins s σ H vs us Q I r h
  obtain ⟨p, ys, rfl, h⟩ := h
  rcases h with ⟨hq, q⟩ | ⟨hq, q⟩
  · obtain ⟨u, rfl, rx⟩ := vals1 r
    cases rx
    obtain ⟨is1, r1, pl, hz⟩ := I.list hq
    have hl := r1.length
    refine call_tuple_list pl.isList (fun h2 kp => ?_) (by simp only [List.size_toArray]; omega)
    have I1 : Inv X pins σ H { s with heap := h2 } := I.kept (t' := s.toks) kp
    exact newT_ep I1 r1 hz q
  · exact call_tuple_of pins s σ H _ us Q I r ⟨p, ys, rfl, .inr ⟨hq, q⟩⟩
def tTupRgN (te : L2.St → Hp → (Int → Int → Hp → Prop) → Prop) : TE := fun σ H Q => te σ H fun a b H1 => RgOk a b ∧ NewT H1 (rgV a b) Q
theorem pe_tupRgN {e : Expr} {te : L2.St → Hp → (Int → Int → Hp → Prop) → Prop} {p pos : Pos} (hc : X.calm = true) (hg : Gl X "tuple") (hm : X.mg "tuple" = none) (he : PRg X e te) (na : starEach [e] X.env = (false, eval e X.env) :: starEach [] X.env := by rfl) : PE X (.Call (.Name "tuple" p) [e] [] pos) (tTupRgN te) := by
  refine ⟨fun pins s σ H Q I h => ?_⟩
  refine Call_ (ld_blt I hg hm boot_tuple (PyProof.Rows.callWith_type1 (args_cons (thn (he pins s σ H _ I h) fun z s2 ⟨r, a, b, t, u, v, H1, ez, hr, I1, ok, q⟩ => args_nil ?_) na) na))
  subst ez
  obtain ⟨b1, b2, b3, b4, b5⟩ := ok
  refine call_tuple_range (n := (b - a).toNat) (I1.ok.hd hc) hr (small_one b1 b2 b3 b4) (rangeSize_nat a b) b5 fun h2 tk acc hk hi => ?_
  have I2 : Inv X pins σ H1 { s2 with heap := h2, toks := tk } := I1.kept hk
  have := newT_ep I2 (vals_rg hi) (by rw [rgV_length, sizeLine_eq]; omega) q
  rw [Array.toArray_toList] at this
  exact this
end
end DL

namespace DL
open PySem L2 PySem.Spec

abbrev En := List PyData
abbrev Ef := En → Option (PyData × En)
abbrev Bf := En → Option (Bool × En)
abbrev Lf := En → Option (List PyData × En)

section
variable {K : PySem.W.Frag} {G G' H H' : Hp}
/-- the j-th taken out -/
theorem ownA_take {ts : List Ty} {ds : List PyData} {vs : List (Option V)} {A : List Addr} (h : OwnA K G H ts ds vs A) {j : Nat} {t : Ty} (e : ts[j]? = some t) :
    ∃ d v Aj A0, ds[j]? = some d ∧ vs[j]? = some v ∧ Own K G H t d v Aj ∧ OwnA K G H (ts.set j .u) ds vs A0 ∧ A.Perm (Aj ++ A0) := by
  induction ts generalizing ds vs A j with
  | nil => simp at e
  | cons t0 ts ih =>
    cases h with
    | @cons _ _ d ds v vs A B h1 h2 =>
      cases j with
      | zero =>
        simp at e; subst e
        exact ⟨d, v, A, B, rfl, rfl, h1, by simpa using OwnA.cons (.u d v) h2, List.Perm.refl _⟩
      | succ j =>
        obtain ⟨d', v', Aj, A0, e1, e2, o1, o2, p⟩ := ih h2 (by simpa using e)
        refine ⟨d', v', Aj, A ++ A0, by simpa using e1, by simpa using e2, o1, OwnA.cons h1 o2, ?_⟩
        exact (List.Perm.append_left A p).trans (by rw [← List.append_assoc, ← List.append_assoc]; exact List.Perm.append_right _ List.perm_append_comm)
/-- the j-th put in -/
theorem ownA_put {ts : List Ty} {ds : List PyData} {vs : List (Option V)} {A0 : List Addr} (h : OwnA K G H ts ds vs A0) {j : Nat} (hj : ts[j]? = some .u) {t : Ty} {d : PyData} {v : Option V} {Aj : List Addr} (o : Own K G H t d v Aj) :
    ∃ A, OwnA K G H (ts.set j t) (ds.set j d) (vs.set j v) A ∧ A.Perm (Aj ++ A0) := by
  induction ts generalizing ds vs A0 j with
  | nil => simp at hj
  | cons t0 ts ih =>
    cases h with
    | @cons _ _ d0 ds v0 vs A B h1 h2 =>
      cases j with
      | zero =>
        simp at hj; subst hj
        cases h1
        exact ⟨Aj ++ B, by simpa using OwnA.cons o h2, by simp⟩
      | succ j =>
        obtain ⟨A', o2, p⟩ := ih h2 (by simpa using hj)
        refine ⟨A ++ A', by simpa using OwnA.cons h1 o2, ?_⟩
        exact (List.Perm.append_left A p).trans (by rw [← List.append_assoc, ← List.append_assoc]; exact List.Perm.append_right _ List.perm_append_comm)
/-- a type forgotten -/
theorem ownA_hide {ts : List Ty} {ds : List PyData} {vs : List (Option V)} {A : List Addr} (h : OwnA K G H ts ds vs A) (j : Nat) : ∃ A0, OwnA K G H (ts.set j .u) ds vs A0 ∧ ∃ B, A.Perm (B ++ A0) := by
  cases e : ts[j]? with
  | none => exact ⟨A, by rw [List.set_eq_of_length_le (by simpa using e)]; exact h, [], by simp⟩
  | some t =>
    obtain ⟨d, v, Aj, A0, _, _, _, o, p⟩ := ownA_take h e
    exact ⟨A0, o, Aj, p⟩
theorem ownA_getS {ts : List Ty} {ds : List PyData} {vs : List (Option V)} {A : List Addr} (h : OwnA K G H ts ds vs A) {j : Nat} (e : ts[j]? = some .s) : ∃ d v, ds[j]? = some d ∧ vs[j]? = some (some v) ∧ Dq K G v d := by
  obtain ⟨d, v, Aj, A0, e1, e2, o, _, _⟩ := ownA_take h e
  cases o with
  | s h => exact ⟨d, _, e1, e2, h⟩
end

theorem set_id {α : Type} {l : List α} {j : Nat} {x : α} (h : l[j]? = some x) : l.set j x = l := by
  apply List.ext_getElem?
  intro i
  rw [List.getElem?_set]
  split
  · rename_i hij; subst hij
    obtain ⟨h1, h2⟩ := List.getElem?_eq_some_iff.mp h
    simp [h1, h2]
  · rfl
theorem stt_frz {K : PySem.W.Frag} {G H : Hp} {m : List Ty} {σ : St} {e : En} {A : List Addr} {j : Nat} {t : Ty} (st : Stt K m G H σ e A) (hm : m[j]? = some t) (hn : nou t = true) :
    ∃ G' A', Step A G H A' G' H ∧ Stt K (m.set j .s) G' H σ e A' := by
  obtain ⟨d', v, Aj, A0, h1, h2, h3, h4, hp⟩ := ownA_take st.own hm
  have nd : (Aj ++ A0).Nodup := hp.nodup_iff.mp st.nd
  have st0 : Stt K (m.set j .u) G H σ e A0 := ⟨h4, (List.nodup_append.mp nd).2.1, st.sub⟩
  obtain ⟨s1, st1, sg, hl⟩ := frz st0 (own_at h3) nd
  obtain ⟨x, rfl, q⟩ := own_frz h3 sg hl hn
  have hj : (m.set j .u)[j]? = some .u := by
    have := (List.getElem?_eq_some_iff.mp hm).1
    simp [this]
  obtain ⟨A', o', p'⟩ := ownA_put st1.own hj (.s q)
  rw [set_id h1, set_id h2, List.set_set] at o'
  have pA : A'.Perm A0 := by simpa using p'
  refine ⟨_, A', ⟨s1.sg, fun a o h _ => h, fun a ha => .inl (hp.mem_iff.mpr (List.mem_append_right _ (pA.mem_iff.mp ha))), fun a h1 h2 => .inl ((s1.gnew a h1 h2).elim (fun z => hp.mem_iff.mpr z) fun z => ?_)⟩, ⟨o', pA.nodup_iff.mpr st1.nd, st1.sub⟩⟩
  obtain ⟨o, ho⟩ := h2
  by_cases q : a ∈ Aj
  · exact hp.mem_iff.mpr (List.mem_append_left _ q)
  · rw [lay_out q, h1] at ho; cases ho

/-! ### readings over data -/
def DE (K : PySem.W.Frag) (m : List Ty) (te : TE) (ty : Ty) (f : Ef) (m' : List Ty) : Prop :=
  ∀ {G H : Hp} {σ : St} {e : En} {A : List Addr} {d : PyData} {e' : En} {Q : VK}, Stt K m G H σ e A → f e = some (d, e') →
    (∀ (G' H' : Hp) (v : V) (Av A' : List Addr), Step A G H (Av ++ A') G' H' → Stt K m' G' H' σ e' A' → Own K G' H' ty d (some v) Av → (Av ++ A').Nodup → Q v H') → te σ H Q
def DT (K : PySem.W.Frag) (m : List Ty) (tt : TT) (f : Bf) (m' : List Ty) : Prop :=
  ∀ {G H : Hp} {σ : St} {e : En} {A : List Addr} {b : Bool} {e' : En} {Q : Bool → Hp → Prop}, Stt K m G H σ e A → f e = some (b, e') →
    (∀ (G' H' : Hp) (A' : List Addr), Step A G H A' G' H' → Stt K m' G' H' σ e' A' → Q b H') → tt σ H Q
def DA (K : PySem.W.Frag) (m : List Ty) (ta : TA) (tys : List Ty) (f : Lf) (m' : List Ty) : Prop :=
  ∀ {G H : Hp} {σ : St} {e : En} {A : List Addr} {ds : List PyData} {e' : En} {Q : List V → Hp → Prop}, Stt K m G H σ e A → f e = some (ds, e') →
    (∀ (G' H' : Hp) (vs : List V) (Av A' : List Addr), Step A G H (Av ++ A') G' H' → Stt K m' G' H' σ e' A' → OwnA K G' H' tys ds (vs.map some) Av → (Av ++ A').Nodup → Q vs H') → ta σ H Q

/-- room, whatever is handled -/
structure RoomU (k : Nat) (A : Around) : Prop where
  dp : A.depth + 3 * k + 5 < recursionLimit
  un : A.units + 16 * k + 200 < cLine
theorem _root_.L2.Room.u {k : Nat} {A : Around} (r : Room k A) : RoomU k A := ⟨r.dp, r.un⟩
/-- a family of contexts that agree on what is fixed -/
class Fam {ι : Type} (Xf : ι → Cx) (P : outParam Program) (w : outParam World) (K : outParam PySem.W.Frag) (mg : outParam (Str → Option Value)) (base : outParam Heap) (n : outParam Nat) : Prop where
  prog : ∀ i, (Xf i).prog = P
  w_ : ∀ i, (Xf i).w = w
  kk : ∀ i, (Xf i).K = K
  mg_ : ∀ i, (Xf i).mg = mg
  base_ : ∀ i, (Xf i).base = base
  room : ∀ i, RoomU n (Xf i).A
  nd : ∀ i, (Xf i).N.Nodup

structure PD {ι : Type} (Xf : ι → Cx) (K : PySem.W.Frag) (m : List Ty) (e : Expr) (ty : Ty) (f : Ef) (m' : List Ty) : Prop where
  ex : ∃ te : TE, (∀ i, PE (Xf i) e te) ∧ DE K m te ty f m'
structure PB {ι : Type} (Xf : ι → Cx) (K : PySem.W.Frag) (m : List Ty) (e : Expr) (f : Bf) (m' : List Ty) : Prop where
  ex : ∃ tt : TT, (∀ i, PT (Xf i) e tt) ∧ DT K m tt f m'
/-- a test within and, or -/
structure PBw {ι : Type} (Xf : ι → Cx) (K : PySem.W.Frag) (m : List Ty) (e : Expr) (f : Bf) (m' : List Ty) : Prop where
  ex : ∃ tt : TT, (∀ i, PW (Xf i) e tt) ∧ DT K m tt f m'
structure PL {ι : Type} (Xf : ι → Cx) (K : PySem.W.Frag) (m : List Ty) (es : List Expr) (tys : List Ty) (f : Lf) (m' : List Ty) : Prop where
  ex : ∃ ta : TA, (∀ i, PA (Xf i) es ta) ∧ DA K m ta tys f m'

/-! ### operations by values -/
def D1 (K : PySem.W.Frag) (r : V → Hp → VK → Prop) (ty : Ty) (g : PyData → Option PyData) : Prop :=
  ∀ {m : List Ty} {G H : Hp} {σ : St} {e : En} {A : List Addr} {x : V} {dx d : PyData} {Q : VK}, Stt K m G H σ e A → Dq K G x dx → g dx = some d →
    (∀ (G' H' : Hp) (v : V) (Av A' : List Addr), Step A G H (Av ++ A') G' H' → Stt K m G' H' σ e A' → Own K G' H' ty d (some v) Av → (Av ++ A').Nodup → Q v H') → r x H Q
def D2 (K : PySem.W.Frag) (r : R2) (ty : Ty) (g : PyData → PyData → Option PyData) : Prop :=
  ∀ {m : List Ty} {G H : Hp} {σ : St} {e : En} {A : List Addr} {x y : V} {dx dy d : PyData} {Q : VK}, Stt K m G H σ e A → Dq K G x dx → Dq K G y dy → g dx dy = some d →
    (∀ (G' H' : Hp) (v : V) (Av A' : List Addr), Step A G H (Av ++ A') G' H' → Stt K m G' H' σ e A' → Own K G' H' ty d (some v) Av → (Av ++ A').Nodup → Q v H') → r x y H Q
structure Op2 {ι : Type} (Xf : ι → Cx) (K : PySem.W.Frag) (op : Value → Value → Sem Value) (ty : Ty) (g : PyData → PyData → Option PyData) : Prop where
  ex : ∃ r : R2, (∀ i, OpR (Xf i) op r) ∧ D2 K r ty g
structure Ix2 {ι : Type} (Xf : ι → Cx) (K : PySem.W.Frag) (ty : Ty) (g : PyData → PyData → Option PyData) : Prop where
  ex : ∃ r : R2, (∀ i, IxR (Xf i) r) ∧ D2 K r ty g
/-- a built-in called with one stable value, with two -/
structure Cl1 {ι : Type} (Xf : ι → Cx) (K : PySem.W.Frag) (fn : Value) (ty : Ty) (g : PyData → Option PyData) : Prop where
  ex : ∃ r : List V → Hp → VK → Prop, (∀ i, CallR (Xf i) fn r) ∧ D1 K (fun x => r [x]) ty g
structure Cl2 {ι : Type} (Xf : ι → Cx) (K : PySem.W.Frag) (fn : Value) (ty : Ty) (g : PyData → PyData → Option PyData) : Prop where
  ex : ∃ r : List V → Hp → VK → Prop, (∀ i, CallR (Xf i) fn r) ∧ D2 K (fun x y => r [x, y]) ty g

section
variable {K : PySem.W.Frag} {G H : Hp} {m : List Ty} {σ : St} {e : En} {A : List Addr} {d : PyData} {Q : VK} {ty : Ty}
/-- an answer that changes nothing -/
theorem ans_s (st : Stt K m G H σ e A) {v : V} (h : Dq K G v d) (k : ∀ (G' H' : Hp) (v : V) (Av A' : List Addr), Step A G H (Av ++ A') G' H' → Stt K m G' H' σ e A' → Own K G' H' .s d (some v) Av → (Av ++ A').Nodup → Q v H') : Q v H :=
  k G H v [] A Step.refl st (.s h) st.nd
/-- an answer in a new tuple -/
theorem ans_tup (st : Stt K m G H σ e A) {vs : List V} {ds : List PyData} (h : DqA K G vs ds) (hz : vs.length ≤ sizeLine) (k : ∀ (G' H' : Hp) (v : V) (Av A' : List Addr), Step A G H (Av ++ A') G' H' → Stt K m G' H' σ e A' → Own K G' H' .s (.tuple ds) (some v) Av → (Av ++ A').Nodup → Q v H') :
    NewT H vs Q := fun p o hc hd hp => by
  obtain ⟨s1, st1, sg⟩ := new_s (o := .frz o (.tup vs)) st hp
  have h' := h.mono sg
  exact k _ _ _ [] A s1 st1 (.s (.tup (.inl ⟨o, hc, hd, upd_same⟩) h'.1 hz h'.2)) st1.nd
theorem ownA_of {G H : Hp} : ∀ {vs : List V} {ds : List PyData}, DqA K G vs ds → OwnA K G H (List.replicate ds.length .s) ds (vs.map some) []
  | [], [], _ => .nil
  | v :: vs, d :: ds, h => OwnA.cons (A := []) (.s h.head) (ownA_of h.tail)
  | [], _ :: _, h => by have := h.1; simp at this
  | _ :: _, [], h => by have := h.1; simp at this
theorem of_ownA {G H : Hp} : ∀ {n : Nat} {vs : List V} {ds : List PyData} {A : List Addr}, OwnA K G H (List.replicate n .s) ds (vs.map some) A → A = [] ∧ DqA K G vs ds
  | 0, [], _, _, h => by cases h; exact ⟨rfl, DqA.nil⟩
  | 0, _ :: _, _, _, h => by cases h
  | n + 1, [], _, _, h => by cases h
  | n + 1, v :: vs, _, _, h => by
    cases h with
    | cons h1 h2 =>
      obtain ⟨e2, q2⟩ := of_ownA (n := n) h2
      cases h1 with
      | s h1 => subst e2; exact ⟨rfl, DqA.cons h1 q2⟩
/-- an answer in a new list, owned -/
theorem ans_lst (st : Stt K m G H σ e A) {vs : List V} {ds : List PyData} (h : DqA K G vs ds) (hz : vs.length ≤ sizeLine) (k : ∀ (G' H' : Hp) (v : V) (Av A' : List Addr), Step A G H (Av ++ A') G' H' → Stt K m G' H' σ e A' → Own K G' H' (.l .s) (.list ds) (some v) Av → (Av ++ A').Nodup → Q v H') :
    ∀ p, H p = none → Q (.ref p) (upd H p (.lst vs)) := fun p hp => by
  obtain ⟨s1, st1, nd, gp⟩ := new_o (o := .lst vs) (B := []) st hp
  exact k _ _ _ [p] A s1 st1 (.l gp upd_same hz (ownA_of h)) nd
end

/-! ### the data's side of expressions -/
def eVar (j : Nat) : Ef := fun e => some (e.getD j .none, e)
def eC (d : PyData) : Ef := fun e => some (d, e)
def e1 (g : PyData → Option PyData) (a : Ef) : Ef := fun e => (a e).bind fun p => (g p.1).bind fun r => some (r, p.2)
def e2 (g : PyData → PyData → Option PyData) (a b : Ef) : Ef := fun e => (a e).bind fun p => (b p.2).bind fun q => (g p.1 q.1).bind fun r => some (r, q.2)

section
variable {ι : Type} {Xf : ι → Cx} {P : Program} {w : World} {K : PySem.W.Frag} {mg : Str → Option Value} {base : Heap} {n : Nat} [F : Fam Xf P w K mg base n]
variable {m m1 m2 m3 : List Ty} {pos p p2 : Pos} {a b c : Expr} {f g h : Ef}

theorem pd_var (j : Nat) {x : Str} (hm : m[j]? = some .s := by rfl) (hN : ∀ i, (Xf i).N[j]? = some x := by intro _; rfl)
    (hv : ∀ i, Vis (Xf i).env.scope x := by first | (intro _; exact Or.inl rfl) | (intro _; exact Or.inr (Or.inl rfl)) | (intro _; exact Or.inr (Or.inr rfl))) (hd : (x == ("__debug__" : Str)) = false := by decide)
    (hcd : (x == ("__classdict__" : Str)) = false := by decide) : PD Xf K m (.Name x pos) .s (eVar j) m := by
  refine ⟨tVar j, fun i => pe_var (hN i) (hv i) hd hcd, fun {G H σ e A d e' Q} st hf k => ?_⟩
  obtain ⟨d', v, h1, h2, h3⟩ := ownA_getS st.own hm
  cases hf
  rw [List.getD_eq_getElem?_getD, h1] at k
  exact ⟨v, h2, ans_s st h3 k⟩
/-- an owned slot, read for good: frozen from here on -/
theorem pd_frzVar (j : Nat) {t : Ty} {x : Str} (hm : m[j]? = some t := by rfl) (hn : nou t = true := by rfl) (hN : ∀ i, (Xf i).N[j]? = some x := by intro _; rfl)
    (hv : ∀ i, Vis (Xf i).env.scope x := by first | (intro _; exact Or.inl rfl) | (intro _; exact Or.inr (Or.inl rfl)) | (intro _; exact Or.inr (Or.inr rfl))) (hd : (x == ("__debug__" : Str)) = false := by decide)
    (hcd : (x == ("__classdict__" : Str)) = false := by decide) : PD Xf K m (.Name x pos) .s (eVar j) (m.set j .s) := by
  refine ⟨tVar j, fun i => pe_var (hN i) (hv i) hd hcd, fun {G H σ e A d e' Q} st hf k => ?_⟩
  obtain ⟨G', A', s0, st2⟩ := stt_frz st hm hn
  obtain ⟨d', v, h1, h2, h3⟩ := ownA_getS st2.own (j := j) (by have := (List.getElem?_eq_some_iff.mp hm).1; simp [this])
  cases hf
  rw [List.getD_eq_getElem?_getD, h1] at k
  exact ⟨v, h2, k _ _ v [] A' s0 st2 (.s h3) st2.nd⟩

theorem pd_int {i : Int} {j} : PD Xf K m (.Constant (.int i) j pos) .s (eC (.int i)) m := ⟨_, fun _ => pe_int, fun {G H σ e A d e' Q} st hf k => by cases hf; exact ans_s st (.int i) k⟩
theorem pd_bool {i : Bool} {j} : PD Xf K m (.Constant (.bool i) j pos) .s (eC (.bool i)) m := ⟨_, fun _ => pe_bl, fun {G H σ e A d e' Q} st hf k => by cases hf; exact ans_s st (.bl i) k⟩
theorem pd_none {j} : PD Xf K m (.Constant .none j pos) .s (eC .none) m := ⟨_, fun _ => pe_non, fun {G H σ e A d e' Q} st hf k => by cases hf; exact ans_s st .non k⟩
theorem pd_str {x : Str} {j} (hx : x.length ≤ sizeLine := by decide +kernel) : PD Xf K m (.Constant (.str x) j pos) .s (eC (.str x)) m := ⟨_, fun _ => pe_str, fun {G H σ e A d e' Q} st hf k => by cases hf; exact ans_s st (.str x hx) k⟩

theorem DE.bin {r : R2} {ta tb : TE} {ty : Ty} {gg : PyData → PyData → Option PyData} (ha : DE K m ta .s f m1) (hb : DE K m1 tb .s g m2) (hr : D2 K r ty gg) : DE K m (tOp r ta tb) ty (e2 gg f g) m2 := by
  intro G H σ e A d e' Q st hf k
  unfold e2 at hf
  obtain ⟨⟨d1, e1⟩, hf1, hf⟩ := Option.bind_eq_some_iff.mp hf
  obtain ⟨⟨d2, e2⟩, hf2, hf⟩ := Option.bind_eq_some_iff.mp hf
  obtain ⟨d3, hf3, hf⟩ := Option.bind_eq_some_iff.mp hf
  cases hf
  refine ha st hf1 fun G1 H1 v1 A1 B1 s1 st1 o1 nd1 => ?_
  cases o1 with
  | s q1 =>
    refine hb st1 hf2 fun G2 H2 v2 A2 B2 s2 st2 o2 nd2 => ?_
    cases o2 with
    | s q2 => exact hr st2 (q1.mono s2.sg) q2 hf3 fun G3 H3 v3 A3 B3 s3 st3 o3 nd3 => k G3 H3 v3 A3 B3 ((s1.seq0 s2).seq0 s3) st3 o3 nd3
theorem DE.un {r : V → Hp → VK → Prop} {ta : TE} {ty : Ty} {gg : PyData → Option PyData} (ha : DE K m ta .s f m1) (hr : D1 K r ty gg) : DE K m (fun σ H Q => ta σ H fun x H1 => r x H1 Q) ty (e1 gg f) m1 := by
  intro G H σ e A d e' Q st hf k
  unfold e1 at hf
  obtain ⟨⟨d1, e1⟩, hf1, hf⟩ := Option.bind_eq_some_iff.mp hf
  obtain ⟨d3, hf3, hf⟩ := Option.bind_eq_some_iff.mp hf
  cases hf
  refine ha st hf1 fun G1 H1 v1 A1 B1 s1 st1 o1 nd1 => ?_
  cases o1 with
  | s q1 => exact hr st1 q1 hf3 fun G3 H3 v3 A3 B3 s3 st3 o3 nd3 => k G3 H3 v3 A3 B3 (s1.seq0 s3) st3 o3 nd3
theorem pd_bin {op : Operator} {ty : Ty} {gg : PyData → PyData → Option PyData} (ho : Op2 Xf K (binaryOp op) ty gg) (ha : PD Xf K m a .s f m1) (hb : PD Xf K m1 b .s g m2) : PD Xf K m (.BinOp a op b pos) ty (e2 gg f g) m2 := by
  obtain ⟨r, hr, dr⟩ := ho.ex
  obtain ⟨ta, pa, da⟩ := ha.ex
  obtain ⟨tb, pb, db⟩ := hb.ex
  exact ⟨_, fun i => pe_op (hr i) (pa i) (pb i), DE.bin da db dr⟩
theorem pd_cmp {op : CmpOp} {ty : Ty} {gg : PyData → PyData → Option PyData} (ho : Op2 Xf K (compareOp op) ty gg) (ha : PD Xf K m a .s f m1) (hb : PD Xf K m1 b .s g m2) (hm : behindInMarks op b = false := by first | exact nomark _ | rfl) : PD Xf K m (.Compare a [op] [b] pos) ty (e2 gg f g) m2 := by
  obtain ⟨r, hr, dr⟩ := ho.ex
  obtain ⟨ta, pa, da⟩ := ha.ex
  obtain ⟨tb, pb, db⟩ := hb.ex
  exact ⟨_, fun i => pe_cmpR (hr i) (pa i) (pb i) hm, DE.bin da db dr⟩
theorem pd_ix {ty : Ty} {gg : PyData → PyData → Option PyData} (ho : Ix2 Xf K ty gg) (ha : PD Xf K m a .s f m1) (hb : PD Xf K m1 b .s g m2) (hs : PlainIx b := by exact fun _ _ => rfl) : PD Xf K m (.Subscript a b pos) ty (e2 gg f g) m2 := by
  obtain ⟨r, hr, dr⟩ := ho.ex
  obtain ⟨ta, pa, da⟩ := ha.ex
  obtain ⟨tb, pb, db⟩ := hb.ex
  exact ⟨_, fun i => pe_ix (hr i) (pa i) (pb i) hs, DE.bin da db dr⟩
/-- what is owned and new, taken as stable -/
theorem pd_frz {ty : Ty} (ha : PD Xf K m a ty f m1) (hn : nou ty = true := by rfl) : PD Xf K m a .s f m1 := by
  obtain ⟨ta, pa, da⟩ := ha.ex
  refine ⟨ta, pa, fun {G H σ e A d e' Q} st hf k => da st hf fun G1 H1 v1 A1 B1 s1 st1 o1 nd1 => ?_⟩
  obtain ⟨s2, st2, sg, hl⟩ := frz st1 (own_at o1) nd1
  obtain ⟨x, hx, q⟩ := own_frz o1 sg hl hn
  cases hx
  have s0 : Step A G H ([] ++ B1) (lay G1 H1 A1) H1 := s1.seq0 s2
  exact k _ _ v1 [] B1 s0 st2 (.s q) st2.nd
end
end DL

namespace DL
open PySem L2 PySem.Spec

section
variable {X : Cx} {pins : List (Addr × Obj)} {σ : St} {H : Hp} {s : Shared}
theorem rdL (I : Inv X pins σ H s) {a : Addr} {xs : List V} (h : Rd H a (.lst xs)) : xs.length ≤ sizeLine ∧ ∃ (its : List Value) (n : Nat), Vals xs its ∧ s.heap.get? a = some { cls := .type "list", data := .seq its.toArray n } := h.ok I.hok
theorem rdD (I : Inv X pins σ H s) {a : Addr} {kvs : List (Str × Int)} (h : Rd H a (.dK (kvs.map fun p => (Sum.inr p.1, V.int p.2)))) :
    ∃ o es ep, s.heap.get? a = some o ∧ o.ExactDict ∧ o.data = .dict es ep ∧ Paired (fun (e : DictEntry) (p : Str × Int) => (∃ t, e.key = .str p.1 t) ∧ ∃ t, e.val = .int p.2 t) es.toList kvs ∧ (a == sysModules) = false := by
  have k : ∃ vs, KV (kvs.map fun p => ((Sum.inr p.1 : Key), V.int p.2)) vs ∧ s.heap.DictOf (mixKind X.prog X.w) a vs := by
    rcases h with h | ⟨o, h⟩
    · obtain ⟨_, _, vs, r, m⟩ : _ ∧ (a == sysModules) = false ∧ ∃ vs, KV _ vs ∧ s.heap.DictOf (mixKind X.prog X.w) a vs := I.hok a _ h
      exact ⟨vs, r, m⟩
    · obtain ⟨_, _, _, vs, r, m⟩ : _ ∧ (_ ∧ (a == sysModules) = false ∧ ∃ vs, KV _ vs ∧ s.heap.DictOf (mixKind X.prog X.w) a vs) := I.hok a _ h
      exact ⟨vs, r, m⟩
  have hne : (a == sysModules) = false := by
    rcases h with h | ⟨o, h⟩
    · obtain ⟨_, z, _⟩ : _ ∧ (a == sysModules) = false ∧ ∃ vs, KV _ vs ∧ s.heap.DictOf (mixKind X.prog X.w) a vs := I.hok a _ h
      exact z
    · obtain ⟨_, _, z, _⟩ : _ ∧ (_ ∧ (a == sysModules) = false ∧ ∃ vs, KV _ vs ∧ s.heap.DictOf (mixKind X.prog X.w) a vs) := I.hok a _ h
      exact z
  obtain ⟨vs, r, o, es, ep, h1, h2, h3, h4, h5, h6⟩ := k
  clear h4 h6
  refine ⟨o, es, ep, h1, h2, h3, ?_, hne⟩
  generalize es.toList = el at h5
  clear h1 h2 h3 hne h
  revert r
  induction h5 generalizing kvs with
  | nil =>
    intro r
    cases kvs with
    | nil => exact .nil
    | cons p kvs => cases r
  | @cons e kv es' kvs' hk hv _ ih =>
    intro r
    cases kvs with
    | nil => cases r
    | cons p kvs =>
      cases r with
      | cons h t =>
        obtain ⟨ha, hb⟩ := h
        refine .cons ⟨?_, ?_⟩ (ih t)
        · have hk' : keyIs (Sum.inr p.1) e.key = true := by rw [← ha] at hk; exact hk
          rcases keyIs_shape hk' with ⟨i, t, z, _⟩ | ⟨x, t, z, q⟩
          · cases z
          · cases z; exact ⟨t, q⟩
        · obtain ⟨t, q⟩ := hb
          exact ⟨t, by rw [hv, q]⟩
theorem readsKV_of {h : Heap} : ∀ {es : List DictEntry} {kvs : List (Str × Int)}, Paired (fun (e : DictEntry) (p : Str × Int) => (∃ t, e.key = .str p.1 t) ∧ ∃ t, e.val = .int p.2 t) es kvs →
    ∃ as, ReadsAll h (es.map (·.key)) (kvs.map fun p => PyData.str p.1) as ∧ ∃ bs, ReadsAll h (es.map (·.val)) (kvs.map fun p => PyData.int p.2) bs
  | [], [], .nil => ⟨_, .nil, _, .nil⟩
  | e :: es, p :: kvs, .cons h t => by
    obtain ⟨⟨t1, h1⟩, t2, h2⟩ := h
    obtain ⟨as, k1, bs, k2⟩ := readsKV_of t
    refine ⟨[] ++ as, ?_, [] ++ bs, ?_⟩
    · rw [List.map_cons, List.map_cons, h1]; exact .cons (.str _ _) k1
    · rw [List.map_cons, List.map_cons, h2]; exact .cons (.int _ _) k2
theorem readsAll_of {P : V → PyData → Prop} (hp : ∀ v d u, P v d → RelV v u → ∃ as, Reads s.heap u d as) : ∀ {xs : List V} {ds : List PyData} {us : List Value}, xs.length = ds.length → (∀ (i : Nat) v d, xs[i]? = some v → ds[i]? = some d → P v d) → Vals xs us → ∃ as, ReadsAll s.heap us ds as
  | [], [], _, _, _, .nil => ⟨_, .nil⟩
  | v :: vs, d :: ds, _, hl, h, .cons r rs => by
    obtain ⟨as, q⟩ := hp v d _ (h 0 v d rfl rfl) r
    obtain ⟨bs, qs⟩ := readsAll_of hp (xs := vs) (ds := ds) (by simpa using hl) (fun i v d a b => h (i + 1) v d (by simpa using a) (by simpa using b)) rs
    exact ⟨_, .cons q qs⟩
  | [], _ :: _, _, hl, _, _ => by simp at hl
  | _ :: _, [], _, hl, _, _ => by simp at hl
theorem Dq.reads (I : Inv X pins σ H s) {v : V} {d : PyData} (h : Dq X.K H v d) : ∀ {u : Value}, RelV v u → ∃ as, Reads s.heap u d as := by
  induction h with
  | non => intro u r; cases r; exact ⟨_, .none⟩
  | bl b => intro u r; cases r; exact ⟨_, .bool b⟩
  | int i => intro u r; obtain ⟨t, rfl⟩ := r; exact ⟨_, .int i t⟩
  | str x _ => intro u r; obtain ⟨t, rfl⟩ := r; exact ⟨_, .str x t⟩
  | lst hs hl hz _ ih =>
    intro u r
    cases r
    obtain ⟨_, its, n, rv, ho⟩ := rdL I hs
    obtain ⟨as, q⟩ := readsAll_of (P := fun v d => ∀ {u : Value}, RelV v u → ∃ as, Reads s.heap u d as) (fun v d u h r => h r) hl (fun i v d a b => ih i v d a b) rv
    exact ⟨_, Reads.list ho rfl rfl q⟩
  | tup hs hl hz _ ih =>
    intro u r
    cases r
    obtain ⟨its, rv, ⟨o, ho, hc, n, hd⟩, _⟩ := I.tuple hs.sq
    obtain ⟨as, q⟩ := readsAll_of (P := fun v d => ∀ {u : Value}, RelV v u → ∃ as, Reads s.heap u d as) (fun v d u h r => h r) hl (fun i v d a b => ih i v d a b) rv
    exact ⟨_, Reads.tuple ho hc hd q⟩
  | @dic a kvs hs hz =>
    intro u r
    cases r
    obtain ⟨o, es, ep, ho, hx, hd, hp, _⟩ := rdD I hs
    obtain ⟨as, h1, bs, h2⟩ := readsKV_of (h := s.heap) hp
    exact ⟨_, Reads.dict (as := as) (bs := bs) ho hx.1 hd (by rw [List.map_map]; exact h1) (by rw [List.map_map]; exact h2)⟩
theorem DqA.reads (I : Inv X pins σ H s) {xs : List V} {ds : List PyData} (h : DqA X.K H xs ds) {us : List Value} (r : Vals xs us) : ∃ as, ReadsAll s.heap us ds as :=
  readsAll_of (P := fun v d => Dq X.K H v d) (fun v d u h r => h.reads I r) h.1 h.2 r
theorem all_plain {K : PySem.W.Frag} {G : Hp} {ds : List PyData} (h : ∀ d ∈ ds, d.plain = true) : PyData.plainAll ds = true := by
  induction ds with
  | nil => rfl
  | cons d ds ih =>
    unfold PyData.plainAll
    rw [h d (List.mem_cons_self ..), ih fun x hx => h x (List.mem_cons_of_mem _ hx)]; rfl
theorem dq_mem {K : PySem.W.Frag} {G : Hp} {xs : List V} {ds : List PyData} (h : DqA K G xs ds) {d : PyData} (hd : d ∈ ds) : ∃ v, Dq K G v d := by
  obtain ⟨i, hi⟩ := List.mem_iff_getElem?.mp hd
  obtain ⟨v, _, q⟩ := h.get hi
  exact ⟨v, q⟩
theorem fits_of {K : PySem.W.Frag} {G : Hp} {v : V} {d : PyData} (h : Dq K G v d) : d.fits63 := by
  cases h with
  | non => trivial
  | bl => trivial
  | int => trivial
  | str x hx => have : sizeLine < 2 ^ 63 := by decide
                simp only [PyData.fits63]; omega
  | lst _ hl hz _ => have : sizeLine < 2 ^ 63 := by decide
                     simp only [PyData.fits63]; omega
  | tup _ hl hz _ => have : sizeLine < 2 ^ 63 := by decide
                     simp only [PyData.fits63]; omega
  | dic _ hz => simp only [PyData.fits63, List.length_map]
end

/-! ### two stable values in, a scalar out -/
/-- a scalar as a value -/
def scV : PyData → Option V
  | .none => some .non
  | .bool b => some (.bl b)
  | .int i => some (.int i)
  | _ => none
theorem scV_dq {K : PySem.W.Frag} {G : Hp} {d : PyData} {v : V} (h : scV d = some v) : Dq K G v d := by
  cases d with
  | none => cases h; exact .non
  | bool b => cases h; exact .bl b
  | int i => cases h; exact .int i
  | _ => cases h
def r2S (K : PySem.W.Frag) (g : PyData → PyData → Option PyData) : R2 := fun x y H Q => ∃ dx dy d v, Dq K H x dx ∧ Dq K H y dy ∧ g dx dy = some d ∧ scV d = some v ∧ Q v H
def r1S (K : PySem.W.Frag) (g : PyData → Option PyData) : V → Hp → VK → Prop := fun x H Q => ∃ dx d v, Dq K H x dx ∧ g dx = some d ∧ scV d = some v ∧ Q v H
theorem d2S {K : PySem.W.Frag} {g : PyData → PyData → Option PyData} (hg : ∀ a b d, g a b = some d → ∃ v, scV d = some v) : D2 K (r2S K g) .s g := fun st hx hy e k => by
  obtain ⟨v, hv⟩ := hg _ _ _ e
  exact ⟨_, _, _, v, hx.mono st.sub, hy.mono st.sub, e, hv, ans_s st (scV_dq hv) k⟩
theorem d1S {K : PySem.W.Frag} {g : PyData → Option PyData} (hg : ∀ a d, g a = some d → ∃ v, scV d = some v) : D1 K (r1S K g) .s g := fun st hx e k => by
  obtain ⟨v, hv⟩ := hg _ _ e
  exact ⟨_, _, v, hx.mono st.sub, e, hv, ans_s st (scV_dq hv) k⟩

def dep (a b : PyData) : Bool := decide (min a.depth b.depth ≤ 60)
/-- the right side is an empty row of the left side's own kind -/
def nilR (a b : PyData) : Bool := match a, b with
  | .tuple _, .tuple [] => true
  | .list _, .list [] => true
  | _, _ => false
def pln (a b : PyData) : Bool := (a.plain && b.plain) || nilR a b
def gEq (a b : PyData) : Option PyData := if (dep a b && pln a b) = true then some (.bool (PyData.eqv a b)) else none
def gNe (a b : PyData) : Option PyData := if (dep a b && pln a b) = true then some (.bool (!PyData.eqv a b)) else none
def cmpOk (a b : PyData) : Bool := PySem.W.alike a b && (match a with | .none => false | _ => true) && dep a b
def gLt : PyData → PyData → Option PyData
  | .int i, .int j => some (.bool (decide (i < j)))
  | a, b => if cmpOk a b = true then some (.bool (PySem.W.dataLt a b)) else none
def gGt : PyData → PyData → Option PyData
  | .int i, .int j => some (.bool (decide (j < i)))
  | a, b => if cmpOk a b = true then some (.bool (PySem.W.dataLt b a)) else none
def gLe : PyData → PyData → Option PyData
  | .int i, .int j => some (.bool (decide (i ≤ j)))
  | a, b => if cmpOk a b = true then some (.bool (!PySem.W.dataLt b a)) else none
def gGe : PyData → PyData → Option PyData
  | .int i, .int j => some (.bool (decide (j ≤ i)))
  | a, b => if cmpOk a b = true then some (.bool (!PySem.W.dataLt a b)) else none
/-- `a is b` where b is None or a truth value -/
def isTD : PyData → PyData → Option Bool
  | .none, .none => some true
  | _, .none => some false
  | .bool a, .bool b => some (a == b)
  | _, .bool _ => some false
  | _, _ => none
def gIs (a b : PyData) : Option PyData := (isTD a b).map .bool
def gIsNot (a b : PyData) : Option PyData := (isTD a b).map fun k => .bool (!k)
def gIn (x : PyData) : PyData → Option PyData
  | .list ys => if (decide (min (PyData.depthAll ys) x.depth ≤ 60) && (PyData.plainAll ys && x.plain)) = true then some (.bool (ys.any fun y => PyData.eqv y x)) else none
  | .tuple ys => if (decide (min (PyData.depthAll ys) x.depth ≤ 60) && (PyData.plainAll ys && x.plain)) = true then some (.bool (ys.any fun y => PyData.eqv y x)) else none
  | _ => none
def gNotIn (x : PyData) : PyData → Option PyData
  | .list ys => if (decide (min (PyData.depthAll ys) x.depth ≤ 60) && (PyData.plainAll ys && x.plain)) = true then some (.bool (!ys.any fun y => PyData.eqv y x)) else none
  | .tuple ys => if (decide (min (PyData.depthAll ys) x.depth ≤ 60) && (PyData.plainAll ys && x.plain)) = true then some (.bool (!ys.any fun y => PyData.eqv y x)) else none
  | _ => none

theorem hu60 {A : Around} {k n : Nat} (hr : RoomU n A) (h : k ≤ 60) : A.units + 1 + k < cLine := by have := hr.un; omega
theorem ite_some {α : Type} {c : Prop} [Decidable c] {a b : α} (h : (if c then some a else none) = some b) : c ∧ a = b := by
  split at h
  · rename_i hc; exact ⟨hc, Option.some.inj h⟩
  · cases h
theorem RelV.sc {d : PyData} {v : V} (h : scV d = some v) : True := trivial
theorem boolE {X : Cx} {pins : List (Addr × Obj)} {σ : St} {H : Hp} {s : Shared} {Q : VK} (I : Inv X pins σ H s) {b : Bool} {v : V} (h : scV (.bool b) = some v) (q : Q v H) : EP X pins σ Q (.bool b) s := by
  cases h
  exact ⟨.bl b, H, I, rfl, q⟩
theorem intE {X : Cx} {pins : List (Addr × Obj)} {σ : St} {H : Hp} {s : Shared} {Q : VK} (I : Inv X pins σ H s) {b : Int} {t : Tok} {v : V} (h : scV (.int b) = some v) (q : Q v H) : EP X pins σ Q (.int b t) s := by
  cases h
  exact ⟨.int b, H, I, ⟨_, rfl⟩, q⟩


theorem dep_ok {a b : PyData} (h : (dep a b && pln a b) = true) : min a.depth b.depth ≤ 60 ∧ ((a.plain = true ∧ b.plain = true) ∨ nilR a b = true) := by
  unfold dep pln at h
  simp only [Bool.and_eq_true, Bool.or_eq_true, decide_eq_true_eq] at h
  exact h
theorem rcN_nil {da db : PyData} {A : Around} {s : Shared} {a b : Value} {as bs : List Addr} (ra : Reads s.heap a da as) (rb : Reads s.heap b db bs) (hu : A.units + min da.depth db.depth < cLine) (h : nilR da db = true) :
    SeqAt.RcAt A s a b (PyData.eqv da db) ∧ SeqAt.RcNeAt A s a b (!PyData.eqv da db) := by
  cases ra with
  | @tuple a1 o1 vs n1 xs ds h1 h2 h3 h4 =>
    cases rb with
    | @tuple a2 o2 us n2 ys cs k1 k2 k3 k4 =>
      cases ys with
      | cons y ys => simp [nilR] at h
      | nil =>
        have e1 : vs.size = xs.length := by simpa using SeqAt.ReadsAll.length _ _ _ h4
        have e2 : us.size = ([] : List PyData).length := by simpa using SeqAt.ReadsAll.length _ _ _ k4
        have he : ∀ j (j1 : j < vs.size) (j2 : j < us.size), SeqAt.EqAt A.in1 s vs[j] us[j] (SeqAt.pairEq xs [] j) := fun j _ j2 => by rw [e2] at j2; cases j2
        show SeqAt.RcAt A s (.ref a1) (.ref a2) (PyData.eqvAll xs []) ∧ SeqAt.RcNeAt A s (.ref a1) (.ref a2) (!PyData.eqvAll xs [])
        rw [← SeqAt.eqvAll_eq xs [], ← e1, ← e2]
        exact ⟨SeqAt.RcAt.tuples ⟨_, h1, h2, _, h3⟩ ⟨_, k1, k2, _, k3⟩ (SeqAt.room_here hu) he, SeqAt.RcNeAt.tuples ⟨_, h1, h2, _, h3⟩ ⟨_, k1, k2, _, k3⟩ (SeqAt.room_here hu) he⟩
    | _ => simp [nilR] at h
  | @list a1 o1 vs n1 xs ds h1 h2 h3 h4 =>
    cases rb with
    | @list a2 o2 us n2 ys cs k1 k2 k3 k4 =>
      cases ys with
      | cons y ys => simp [nilR] at h
      | nil =>
        have e1 : vs.size = xs.length := by simpa using SeqAt.ReadsAll.length _ _ _ h4
        have e2 : us.size = 0 := by simpa using SeqAt.ReadsAll.length _ _ _ k4
        show SeqAt.RcAt A s (.ref a1) (.ref a2) (PyData.eqvAll xs []) ∧ SeqAt.RcNeAt A s (.ref a1) (.ref a2) (!PyData.eqvAll xs [])
        cases xs with
        | nil =>
          have he : ∀ j (j1 : j < vs.size) (j2 : j < us.size), SeqAt.EqAt A.in1 s vs[j] us[j] (SeqAt.pairEq [] [] j) := fun j _ j2 => by rw [e2] at j2; cases j2
          have z : vs.size = us.size := by rw [e1, e2]; rfl
          rw [← SeqAt.eqvAll_same_length (show ([] : List PyData).length = ([] : List PyData).length from rfl)]
          have e3 : ([] : List PyData).length = vs.size := e1.symm
          rw [e3]
          exact ⟨SeqAt.RcAt.lists ⟨_, h1, h2, _, h3⟩ ⟨_, k1, k2, _, k3⟩ z (SeqAt.room_here hu) he, SeqAt.RcNeAt.lists ⟨_, h1, h2, _, h3⟩ ⟨_, k1, k2, _, k3⟩ z (SeqAt.room_here hu) he⟩
        | cons x xs =>
          have z : vs.size ≠ us.size := by rw [e1, e2, List.length_cons]; omega
          rw [SeqAt.eqvAll_other_length (by simp : (x :: xs).length ≠ ([] : List PyData).length)]
          exact ⟨SeqAt.RcAt.lists_lengths ⟨_, h1, h2, _, h3⟩ ⟨_, k1, k2, _, k3⟩ (by simpa using z) (SeqAt.room_here hu), SeqAt.RcNeAt.lists_lengths ⟨_, h1, h2, _, h3⟩ ⟨_, k1, k2, _, k3⟩ (by simpa using z) (SeqAt.room_here hu)⟩
    | _ => simp [nilR] at h
  | _ => simp [nilR] at h
theorem in_ok {xs : List PyData} {d : PyData} (h : (decide (min (PyData.depthAll xs) d.depth ≤ 60) && (PyData.plainAll xs && d.plain)) = true) : min (PyData.depthAll xs) d.depth ≤ 60 ∧ PyData.plainAll xs = true ∧ d.plain = true := by
  simp only [Bool.and_eq_true, decide_eq_true_eq] at h
  exact h
theorem cmp_ok {a b : PyData} (h : cmpOk a b = true) : PySem.W.alike a b = true ∧ a ≠ .none ∧ min a.depth b.depth ≤ 60 := by
  unfold cmpOk at h
  simp only [Bool.and_eq_true] at h
  refine ⟨h.1.1, fun e => ?_, of_decide_eq_true h.2⟩
  subst e
  have := h.1.2
  simp at this

theorem depth_le {xs : List PyData} {d : PyData} (h : decide (min (PyData.depthAll xs) d.depth ≤ 60) = true) : min (PyData.depthAll xs) d.depth ≤ 60 := of_decide_eq_true h

section
variable {ι : Type} {Xf : ι → Cx} {P : Program} {w : World} {K : PySem.W.Frag} {mg : Str → Option Value} {base : Heap} {n : Nat} [F : Fam Xf P w K mg base n]
include F
theorem op_eqG' (i : ι) : OpR (Xf i) (compareOp .Eq) (r2S K gEq) := by
  intro pins s σ H x y v u Q I rx ry h
  obtain ⟨dx, dy, d, z, hx, hy, e, hz, q⟩ := h
  rw [← F.kk i] at hx hy
  obtain ⟨as, r1⟩ := hx.reads I rx
  obtain ⟨bs, r2⟩ := hy.reads I ry
  obtain ⟨hd, rfl⟩ := ite_some e
  have hu : (Xf i).A.units + min dx.depth dy.depth < cLine := by have := hu60 (F.room i) (dep_ok hd).1; omega
  rcases (dep_ok hd).2 with hp | hn
  · exact PySem.SeqAt.eq_plain r1 r2 hp.1 hp.2 hu (boolE I hz q)
  · exact (rcN_nil r1 r2 hu hn).1 _ _ _ _ (boolE I hz q)
theorem op_neG' (i : ι) : OpR (Xf i) (compareOp .NotEq) (r2S K gNe) := by
  intro pins s σ H x y v u Q I rx ry h
  obtain ⟨dx, dy, d, z, hx, hy, e, hz, q⟩ := h
  rw [← F.kk i] at hx hy
  obtain ⟨as, r1⟩ := hx.reads I rx
  obtain ⟨bs, r2⟩ := hy.reads I ry
  obtain ⟨hd, rfl⟩ := ite_some e
  have hu : (Xf i).A.units + min dx.depth dy.depth < cLine := by have := hu60 (F.room i) (dep_ok hd).1; omega
  rcases (dep_ok hd).2 with hp | hn
  · exact PySem.SeqAt.ne_plain r1 r2 hp.1 hp.2 hu (boolE I hz q)
  · exact (rcN_nil r1 r2 hu hn).2 _ _ _ _ (boolE I hz q)
theorem op_ltG' (i : ι) : OpR (Xf i) (compareOp .Lt) (r2S K gLt) := by
  intro pins s σ H x y v u Q I rx ry h
  obtain ⟨dx, dy, d, z, hx, hy, e, hz, q⟩ := h
  rw [← F.kk i] at hx hy
  obtain ⟨as, r1⟩ := hx.reads I rx
  obtain ⟨bs, r2⟩ := hy.reads I ry
  unfold gLt at e
  split at e
  · cases e
    exact PySem.W.lt_data r1 r2 rfl (fun z => nomatch z) (by have := hu60 (F.room i) (k := 0) (by omega); simp only [PyData.depth]; omega) (by rw [PySem.W.dataLt_int]; exact boolE I hz q)
  · obtain ⟨hd, rfl⟩ := ite_some e
    obtain ⟨h1, h2, h3⟩ := cmp_ok hd
    exact PySem.W.lt_data r1 r2 h1 h2 (by have := hu60 (F.room i) h3; omega) (boolE I hz q)
theorem op_gtG' (i : ι) : OpR (Xf i) (compareOp .Gt) (r2S K gGt) := by
  intro pins s σ H x y v u Q I rx ry h
  obtain ⟨dx, dy, d, z, hx, hy, e, hz, q⟩ := h
  rw [← F.kk i] at hx hy
  obtain ⟨as, r1⟩ := hx.reads I rx
  obtain ⟨bs, r2⟩ := hy.reads I ry
  unfold gGt at e
  split at e
  · cases e
    exact PySem.W.gt_data r1 r2 rfl (fun z => nomatch z) (by have := hu60 (F.room i) (k := 0) (by omega); simp only [PyData.depth]; omega) (by rw [PySem.W.dataLt_int]; exact boolE I hz q)
  · obtain ⟨hd, rfl⟩ := ite_some e
    obtain ⟨h1, h2, h3⟩ := cmp_ok hd
    exact PySem.W.gt_data r1 r2 h1 h2 (by have := hu60 (F.room i) h3; omega) (boolE I hz q)
theorem op_leG' (i : ι) : OpR (Xf i) (compareOp .LtE) (r2S K gLe) := by
  intro pins s σ H x y v u Q I rx ry h
  obtain ⟨dx, dy, d, z, hx, hy, e, hz, q⟩ := h
  rw [← F.kk i] at hx hy
  obtain ⟨as, r1⟩ := hx.reads I rx
  obtain ⟨bs, r2⟩ := hy.reads I ry
  unfold gLe at e
  split at e
  · cases e
    exact PySem.W.le_data r1 r2 rfl (fun z => nomatch z) (by have := hu60 (F.room i) (k := 0) (by omega); simp only [PyData.depth]; omega) (by rw [PySem.W.dataLt_int, PySem.W.not_lt_int]; exact boolE I hz q)
  · obtain ⟨hd, rfl⟩ := ite_some e
    obtain ⟨h1, h2, h3⟩ := cmp_ok hd
    exact PySem.W.le_data r1 r2 h1 h2 (by have := hu60 (F.room i) h3; omega) (boolE I hz q)
theorem op_geG' (i : ι) : OpR (Xf i) (compareOp .GtE) (r2S K gGe) := by
  intro pins s σ H x y v u Q I rx ry h
  obtain ⟨dx, dy, d, z, hx, hy, e, hz, q⟩ := h
  rw [← F.kk i] at hx hy
  obtain ⟨as, r1⟩ := hx.reads I rx
  obtain ⟨bs, r2⟩ := hy.reads I ry
  unfold gGe at e
  split at e
  · cases e
    exact PySem.W.ge_data r1 r2 rfl (fun z => nomatch z) (by have := hu60 (F.room i) (k := 0) (by omega); simp only [PyData.depth]; omega) (by rw [PySem.W.dataLt_int, PySem.W.not_lt_int]; exact boolE I hz q)
  · obtain ⟨hd, rfl⟩ := ite_some e
    obtain ⟨h1, h2, h3⟩ := cmp_ok hd
    exact PySem.W.ge_data r1 r2 h1 h2 (by have := hu60 (F.room i) h3; omega) (boolE I hz q)
theorem op_inG' (i : ι) : OpR (Xf i) (compareOp .In) (r2S K gIn) := by
  intro pins s σ H x y v u Q I rx ry h
  obtain ⟨dx, dy, d, z, hx, hy, e, hz, q⟩ := h
  rw [← F.kk i] at hx hy
  obtain ⟨as, r1⟩ := hx.reads I rx
  obtain ⟨bs, r2⟩ := hy.reads I ry
  unfold gIn at e
  split at e
  · obtain ⟨hd, rfl⟩ := ite_some e
    exact PySem.SeqAt.in_list_data r2 r1 (in_ok hd).2.1 (in_ok hd).2.2 (hu60 (F.room i) (in_ok hd).1) (boolE I hz q)
  · obtain ⟨hd, rfl⟩ := ite_some e
    exact PySem.SeqAt.in_tuple_data r2 r1 (in_ok hd).2.1 (in_ok hd).2.2 (hu60 (F.room i) (in_ok hd).1) (boolE I hz q)
  · cases e
theorem op_notInG' (i : ι) : OpR (Xf i) (compareOp .NotIn) (r2S K gNotIn) := by
  intro pins s σ H x y v u Q I rx ry h
  obtain ⟨dx, dy, d, z, hx, hy, e, hz, q⟩ := h
  rw [← F.kk i] at hx hy
  obtain ⟨as, r1⟩ := hx.reads I rx
  obtain ⟨bs, r2⟩ := hy.reads I ry
  unfold gNotIn at e
  split at e
  · obtain ⟨hd, rfl⟩ := ite_some e
    exact PySem.SeqAt.notIn_list_data r2 r1 (in_ok hd).2.1 (in_ok hd).2.2 (hu60 (F.room i) (in_ok hd).1) (boolE I hz q)
  · obtain ⟨hd, rfl⟩ := ite_some e
    exact PySem.SeqAt.notIn_tuple_data r2 r1 (in_ok hd).2.1 (in_ok hd).2.2 (hu60 (F.room i) (in_ok hd).1) (boolE I hz q)
  · cases e
omit F in
theorem isTD_ok {G : Hp} {x y : V} {v u : Value} {dx dy : PyData} {b : Bool} (hx : Dq K G x dx) (hy : Dq K G y dy) (rx : RelV x v) (ry : RelV y u) (e : isTD dx dy = some b) : plainIs v u = true ∧ (v == u) = b := by
  cases hy with
  | non =>
    cases ry
    cases hx <;> (first | (cases rx; cases e; exact ⟨rfl, by simp⟩) | (obtain ⟨t, rfl⟩ := rx; cases e; exact ⟨rfl, by simp⟩) | (simp only [isTD] at e; cases e; cases rx; exact ⟨rfl, rfl⟩))
  | bl c =>
    cases ry
    cases hx <;> (first | (obtain ⟨t, rfl⟩ := rx; cases e; exact ⟨rfl, by simp⟩) | (cases rx; cases e; exact ⟨rfl, by simp⟩) | (rename_i b'; cases rx; cases e; cases b' <;> cases c <;> exact ⟨rfl, rfl⟩))
  | _ => cases hx <;> simp [isTD] at e
theorem op_isG' (i : ι) : OpR (Xf i) (compareOp .Is) (r2S K gIs) := by
  intro pins s σ H x y v u Q I rx ry h
  obtain ⟨dx, dy, d, z, hx, hy, e, hz, q⟩ := h
  obtain ⟨b, e1, rfl⟩ := Option.map_eq_some_iff.mp e
  obtain ⟨h1, h2⟩ := isTD_ok hx hy rx ry e1
  exact wpAny_is_plain h1 (by rw [h2]; exact boolE I hz q)
theorem op_isNotG' (i : ι) : OpR (Xf i) (compareOp .IsNot) (r2S K gIsNot) := by
  intro pins s σ H x y v u Q I rx ry h
  obtain ⟨dx, dy, d, z, hx, hy, e, hz, q⟩ := h
  obtain ⟨b, e1, rfl⟩ := Option.map_eq_some_iff.mp e
  obtain ⟨h1, h2⟩ := isTD_ok hx hy rx ry e1
  exact wpAny_isNot_plain h1 (by rw [h2]; exact boolE I hz q)

theorem opEq : Op2 Xf K (compareOp .Eq) .s gEq := ⟨_, op_eqG', d2S fun a b d e => by obtain ⟨_, rfl⟩ := ite_some e; exact ⟨_, rfl⟩⟩
theorem opNe : Op2 Xf K (compareOp .NotEq) .s gNe := ⟨_, op_neG', d2S fun a b d e => by obtain ⟨_, rfl⟩ := ite_some e; exact ⟨_, rfl⟩⟩
theorem opLt : Op2 Xf K (compareOp .Lt) .s gLt := ⟨_, op_ltG', d2S fun a b d e => by
  unfold gLt at e; split at e
  · cases e; exact ⟨_, rfl⟩
  · obtain ⟨_, rfl⟩ := ite_some e; exact ⟨_, rfl⟩⟩
theorem opGt : Op2 Xf K (compareOp .Gt) .s gGt := ⟨_, op_gtG', d2S fun a b d e => by
  unfold gGt at e; split at e
  · cases e; exact ⟨_, rfl⟩
  · obtain ⟨_, rfl⟩ := ite_some e; exact ⟨_, rfl⟩⟩
theorem opLe : Op2 Xf K (compareOp .LtE) .s gLe := ⟨_, op_leG', d2S fun a b d e => by
  unfold gLe at e; split at e
  · cases e; exact ⟨_, rfl⟩
  · obtain ⟨_, rfl⟩ := ite_some e; exact ⟨_, rfl⟩⟩
theorem opGe : Op2 Xf K (compareOp .GtE) .s gGe := ⟨_, op_geG', d2S fun a b d e => by
  unfold gGe at e; split at e
  · cases e; exact ⟨_, rfl⟩
  · obtain ⟨_, rfl⟩ := ite_some e; exact ⟨_, rfl⟩⟩
theorem opIs : Op2 Xf K (compareOp .Is) .s gIs := ⟨_, op_isG', d2S fun a b d e => by
  obtain ⟨k, _, rfl⟩ := Option.map_eq_some_iff.mp e; exact ⟨_, rfl⟩⟩
theorem opIsNot : Op2 Xf K (compareOp .IsNot) .s gIsNot := ⟨_, op_isNotG', d2S fun a b d e => by
  obtain ⟨k, _, rfl⟩ := Option.map_eq_some_iff.mp e; exact ⟨_, rfl⟩⟩
theorem opIn : Op2 Xf K (compareOp .In) .s gIn := ⟨_, op_inG', d2S fun a b d e => by
  unfold gIn at e; split at e
  · obtain ⟨_, rfl⟩ := ite_some e; exact ⟨_, rfl⟩
  · obtain ⟨_, rfl⟩ := ite_some e; exact ⟨_, rfl⟩
  · cases e⟩
theorem opNotIn : Op2 Xf K (compareOp .NotIn) .s gNotIn := ⟨_, op_notInG', d2S fun a b d e => by
  unfold gNotIn at e; split at e
  · obtain ⟨_, rfl⟩ := ite_some e; exact ⟨_, rfl⟩
  · obtain ⟨_, rfl⟩ := ite_some e; exact ⟨_, rfl⟩
  · cases e⟩
end
end DL

namespace DL
open PySem L2 PySem.Spec

/-! ### arithmetic -/
def rCatR : R2 := fun x y H Q => ∃ l b xs zs, x = .ref l ∧ y = .ref b ∧ Rd H l (.lst xs) ∧ Rd H b (.lst zs) ∧ xs.length + zs.length ≤ sizeLine ∧ ∀ p, H p = none → Q (.ref p) (upd H p (.lst (xs ++ zs)))
theorem op_catR {X : Cx} : OpR X (binaryOp .Add) rCatR := by
  intro pins s σ H x y v u Q I rx ry h
  obtain ⟨l, b, xs, zs, rfl, rfl, hH, hB, hz, q⟩ := h
  cases rx
  cases ry
  obtain ⟨z, its, n, r, e⟩ := rdL I hH
  obtain ⟨z2, its2, n2, r2, e2⟩ := rdL I hB
  have hl := r.length
  have hl2 := r2.length
  refine PySem.P.add_list e e2 ?_ (by rw [List.size_toArray, List.size_toArray]; omega)
  have ea : its.toArray ++ its2.toArray = (its ++ its2).toArray := by simp
  rw [ea]
  exact ⟨.ref _, _, I.lnew (t' := s.toks) (r.append r2) (by rw [List.length_append]; omega), rfl, q _ I.fresh⟩
def rRepR : R2 := fun x y H Q => ∃ l k xs, x = .ref l ∧ y = .int k ∧ Rd H l (.lst xs) ∧ -(2 ^ 63) ≤ k ∧ k < 2 ^ 63 ∧ xs.length * k.toNat ≤ sizeLine ∧
  ∀ p, H p = none → Q (.ref p) (upd H p (.lst (List.replicate k.toNat xs).flatten))
theorem op_repR {X : Cx} : OpR X (binaryOp .Mult) rRepR := by
  intro pins s σ H x y v u Q I rx ry h
  obtain ⟨l, k, xs, rfl, rfl, hH, h1, h2, hz, q⟩ := h
  cases rx
  obtain ⟨t, rfl⟩ := ry
  obtain ⟨z, its, n, r, e⟩ := rdL I hH
  have hl := r.length
  have hlen : its.toArray.size * k.toNat ≤ sizeLine := by rw [List.size_toArray, ← hl]; exact hz
  have hcap : ¬ its.toArray.size * k.toNat > (2 ^ 63 - 1) / 8 := by
    have : (sizeLine : Nat) ≤ (2 ^ 63 - 1) / 8 := by decide
    omega
  have hfit : ¬ (!Builtin.List.listFitsIndex k) = true := by
    rw [fitsIndex_both h1 h2]
    exact Bool.false_ne_true
  have hlong : ¬ Builtin.List.listTooLong (its.toArray.size * k.toNat) = true := by
    rw [notLongL hlen]
    exact Bool.false_ne_true
  have hnew : List.foldl (fun x1 x2 => x1 ++ x2) #[] (List.replicate (if its.toArray.isEmpty = true then 0 else k.toNat) its.toArray) = (List.replicate k.toNat its).flatten.toArray := by
    have f0 : ∀ m : Nat, List.foldl (fun x1 x2 => x1 ++ x2) #[] (List.replicate m its.toArray) = (List.replicate m its).flatten.toArray := fun m => by
      have := foldl_rep its m []
      rw [List.nil_append] at this
      exact this
    rw [f0]
    cases its with
    | nil => simp
    | cons a r' => simp
  refine wpAny_binaryOp_repeat_ref (T := "list") (U := "int") (by decide) ⟨_, e, rfl⟩ (fun s' => typeIs_int s' k t) noFill_list_mul F.fills_int_mul F.slot_int_rmul repeat_list F.slot_int_index.lookup
    (call_meets F.slot_int_rmul (typeIs_int s k t) F.entry_int_rmul (F.args_int_rmul_2 _ _) (int___rmul___int_list k t l its.toArray n)
      ⟨e, rfl, ⟨_, e, rfl⟩, call_meets F.slot_list_mul ⟨_, e, rfl⟩ F.entry_list_mul (F.args_list_mul_2 _ _) (AutoListH.list___mul___list_int_3 l its.toArray n k t hfit hcap hlong) ⟨e, ?_⟩⟩)
  rw [hnew]
  exact ⟨.ref _, _, I.lnew (t' := s.toks) (r.rep k.toNat) (by rw [PyProof.Rows.lm_len_rep_flat, Nat.mul_comm]; exact hz), rfl, q _ I.fresh⟩

/-! ### True + 1 -/
def bI (b : Bool) : Int := if b = true then 1 else 0
theorem gv_addB (b : Bool) (j : Int) (t : Tok) : Gives (Builtin.«int.__add__» ⟨[.bool b, .int j t], []⟩) (.int (bI b + j)) :=
  .of_wp fun M A E s Q h => by
    obtain ⟨hp, g, d, tk, os⟩ := s
    wp_walk
    exact ⟨_, rfl, h⟩
theorem gv_subB (b : Bool) (j : Int) (t : Tok) : Gives (Builtin.«int.__sub__» ⟨[.bool b, .int j t], []⟩) (.int (bI b - j)) :=
  .of_wp fun M A E s Q h => by
    obtain ⟨hp, g, d, tk, os⟩ := s
    wp_walk
    exact ⟨_, rfl, h⟩
def rBI (g : Int → Int → Int) : R2 := fun x y H Q => ∃ b j, x = .bl b ∧ y = .int j ∧ Q (.int (g (bI b) j)) H
theorem op_addBI {X : Cx} : OpR X (binaryOp .Add) (rBI fun i j => i + j) := by
  intro pins s σ H x y v u Q I rx ry h
  obtain ⟨b, j, rfl, rfl, q⟩ := h
  cases rx
  obtain ⟨t, rfl⟩ := ry
  exact binaryOp_left_gives (op := .Add) (T := "bool") (U := "int") (by decide) rfl (fun s' => typeIs_int s' j t) F.fills_bool_add F.fills_int_add F.sub_int_bool F.slot_bool_add F.slot_int_radd F.entry_int_add (F.args_int_add_2 _ _) (gv_addB b j t) trivial
    ⟨.int (bI b + j), H, I.tok _, ⟨_, rfl⟩, q⟩
theorem op_subBI {X : Cx} : OpR X (binaryOp .Sub) (rBI fun i j => i - j) := by
  intro pins s σ H x y v u Q I rx ry h
  obtain ⟨b, j, rfl, rfl, q⟩ := h
  cases rx
  obtain ⟨t, rfl⟩ := ry
  exact binaryOp_left_gives (op := .Sub) (T := "bool") (U := "int") (by decide) rfl (fun s' => typeIs_int s' j t) F.fills_bool_sub F.fills_int_sub F.sub_int_bool F.slot_bool_sub F.slot_int_rsub F.entry_int_sub (F.args_int_sub_2 _ _) (gv_subB b j t) trivial
    ⟨.int (bI b - j), H, I.tok _, ⟨_, rfl⟩, q⟩
def gAdd : PyData → PyData → Option PyData
  | .int i, .int j => some (.int (i + j))
  | .bool b, .int j => some (.int (bI b + j))
  | .str i, .str j => if i.length + j.length ≤ sizeLine then some (.str (i ++ j)) else none
  | .tuple a, .tuple b => if a.length + b.length ≤ sizeLine then some (.tuple (a ++ b)) else none
  | .list a, .list b => if a.length + b.length ≤ sizeLine then some (.list (a ++ b)) else none
  | _, _ => none
def gAddL : PyData → PyData → Option PyData
  | .list a, .list b => if a.length + b.length ≤ sizeLine then some (.list (a ++ b)) else none
  | _, _ => none
def gSub : PyData → PyData → Option PyData
  | .int i, .int j => some (.int (i - j))
  | .bool b, .int j => some (.int (bI b - j))
  | _, _ => none
def mulOk (i j : Int) : Bool := decide (i.natAbs < 2 ^ 64) || decide (j.natAbs < 2 ^ 64)
def gMul : PyData → PyData → Option PyData
  | .int i, .int j => if mulOk i j = true then some (.int (i * j)) else none
  | .list xs, .int k => if -(2 ^ 63) ≤ k ∧ k < 2 ^ 63 ∧ xs.length * k.toNat ≤ sizeLine then some (.list (List.replicate k.toNat xs).flatten) else none
  | .tuple xs, .int k => if -1000 ≤ k ∧ k ≤ 1000 ∧ xs.length ≤ 1000 then some (.tuple (List.replicate k.toNat xs).flatten) else none
  | _, _ => none
def gMulL : PyData → PyData → Option PyData
  | .list xs, .int k => if -(2 ^ 63) ≤ k ∧ k < 2 ^ 63 ∧ xs.length * k.toNat ≤ sizeLine then some (.list (List.replicate k.toNat xs).flatten) else none
  | _, _ => none
def gFdiv : PyData → PyData → Option PyData
  | .int i, .int j => if 0 < j ∧ j.natAbs.log2 < 9000 then some (.int (i / j)) else none
  | _, _ => none
def gMod : PyData → PyData → Option PyData
  | .int i, .int j => if 0 < j then some (.int (i % j)) else none
  | _, _ => none
def gPow : PyData → PyData → Option PyData
  | .int i, .int j => if 0 ≤ j ∧ j ≤ 1000000 ∧ i.natAbs < 2 ^ 64 then some (.int (i ^ j.toNat)) else none
  | _, _ => none
def gNeg : PyData → Option PyData
  | .int i => some (.int (-i))
  | _ => none

section
variable {K : PySem.W.Frag} {G H : Hp} {m : List Ty} {σ : St} {e : En} {A : List Addr} {d : PyData} {Q : VK}
theorem dq_lst {G : Hp} {x : V} {ds : List PyData} (h : Dq K G x (.list ds)) : ∃ a xs, x = .ref a ∧ Rd G a (.lst xs) ∧ xs.length ≤ sizeLine ∧ DqA K G xs ds := by
  cases h with
  | lst h1 h2 h3 h4 => exact ⟨_, _, rfl, h1, h3, h2, h4⟩
theorem dq_tup {G : Hp} {x : V} {ds : List PyData} (h : Dq K G x (.tuple ds)) : ∃ a xs, x = .ref a ∧ SqT K G a xs ∧ xs.length ≤ sizeLine ∧ DqA K G xs ds := by
  cases h with
  | tup h1 h2 h3 h4 => exact ⟨_, _, rfl, h1.sq, h3, h2, h4⟩
theorem dq_tupN {G : Hp} {x : V} {ds : List PyData} (h : Dq K G x (.tuple ds)) : ∃ a xs, x = .ref a ∧ NdT K G a xs ∧ xs.length ≤ sizeLine ∧ DqA K G xs ds := by
  cases h with
  | tup h1 h2 h3 h4 => exact ⟨_, _, rfl, h1, h3, h2, h4⟩
theorem dq_int {G : Hp} {x : V} {i : Int} (h : Dq K G x (.int i)) : x = .int i := by cases h; rfl
theorem dq_bool {G : Hp} {x : V} {i : Bool} (h : Dq K G x (.bool i)) : x = .bl i := by cases h; rfl
theorem dq_str {G : Hp} {x : V} {i : Str} (h : Dq K G x (.str i)) : x = .str i ∧ i.length ≤ sizeLine := by cases h; exact ⟨rfl, by assumption⟩
theorem DqA.flat {G : Hp} {xs : List V} {ds : List PyData} (h : DqA K G xs ds) : ∀ k : Nat, DqA K G (List.replicate k xs).flatten (List.replicate k ds).flatten
  | 0 => DqA.nil
  | k + 1 => by rw [List.replicate_succ, List.replicate_succ, List.flatten_cons, List.flatten_cons]; exact h.append (DqA.flat h k)
/-- an owned answer, frozen -/
theorem kfrz {ty : Ty} (hn : nou ty = true) (k : ∀ (G' H' : Hp) (v : V) (Av A' : List Addr), Step A G H (Av ++ A') G' H' → Stt K m G' H' σ e A' → Own K G' H' .s d (some v) Av → (Av ++ A').Nodup → Q v H') :
    ∀ (G' H' : Hp) (v : V) (Av A' : List Addr), Step A G H (Av ++ A') G' H' → Stt K m G' H' σ e A' → Own K G' H' ty d (some v) Av → (Av ++ A').Nodup → Q v H' := fun G1 H1 v1 A1 B1 s1 st1 o1 nd1 => by
  obtain ⟨s2, st2, sg, hl⟩ := frz st1 (own_at o1) nd1
  obtain ⟨x, hx, q⟩ := own_frz o1 sg hl hn
  cases hx
  have s0 : Step A G H ([] ++ B1) (lay G1 H1 A1) H1 := s1.seq0 s2
  exact k _ _ v1 [] B1 s0 st2 (.s q) st2.nd
theorem d2_catL : D2 K rCatR (.l .s) gAddL := fun {m G H σ e A x y dx dy d Q} st hx hy ee k => by
  unfold gAddL at ee
  split at ee
  · obtain ⟨hz, rfl⟩ := ite_some ee
    obtain ⟨a, xs, rfl, r1, z1, q1⟩ := dq_lst hx
    obtain ⟨b, ys, rfl, r2, z2, q2⟩ := dq_lst hy
    have l1 := q1.1
    have l2 := q2.1
    exact ⟨a, b, xs, ys, rfl, rfl, same_rd st.sub r1, same_rd st.sub r2, by omega, ans_lst st (q1.append q2) (by rw [List.length_append]; omega) k⟩
  · cases ee
theorem d2_repL : D2 K rRepR (.l .s) gMulL := fun {m G H σ e A x y dx dy d Q} st hx hy ee k => by
  unfold gMulL at ee
  split at ee
  · obtain ⟨hz, rfl⟩ := ite_some ee
    obtain ⟨a, xs, rfl, r1, z1, q1⟩ := dq_lst hx
    obtain rfl := dq_int hy
    have l1 := q1.1
    exact ⟨a, _, xs, rfl, rfl, same_rd st.sub r1, hz.1, hz.2.1, by rw [l1]; exact hz.2.2, ans_lst st (q1.flat _) (by rw [PyProof.Rows.lm_len_rep_flat, l1, Nat.mul_comm]; exact hz.2.2) k⟩
  · cases ee
end

section
variable {ι : Type} {Xf : ι → Cx} {P : Program} {w : World} {K : PySem.W.Frag} {mg : Str → Option Value} {base : Heap} {n : Nat} [F : Fam Xf P w K mg base n]
include F
theorem kkR {r : PySem.W.Frag → R2} {f : Value → Value → Sem Value} (h : ∀ X : Cx, OpR X f (r X.K)) (i : ι) : OpR (Xf i) f (r K) := by
  have := h (Xf i)
  rw [F.kk i] at this
  exact this
theorem opAdd : Op2 Xf K (binaryOp .Add) .s gAdd := by
  refine ⟨_, fun i => OpR.or op_addBI (OpR.or (op_add) (OpR.or op_add_str (OpR.or (kkR (fun X => op_catN) i) op_catR))), fun {m G H σ e A x y dx dy d Q} st hx hy ee k => ?_⟩
  unfold gAdd at ee
  split at ee
  · cases ee
    obtain rfl := dq_int hx
    obtain rfl := dq_int hy
    exact .inr (.inl ⟨_, _, rfl, rfl, ans_s st (.int _) k⟩)
  · cases ee
    obtain rfl := dq_bool hx
    obtain rfl := dq_int hy
    exact .inl ⟨_, _, rfl, rfl, ans_s st (.int _) k⟩
  · obtain ⟨hz, rfl⟩ := ite_some ee
    obtain ⟨rfl, z1⟩ := dq_str hx
    obtain ⟨rfl, z2⟩ := dq_str hy
    refine .inr (.inr (.inl ⟨_, _, rfl, rfl, hz, ans_s st (.str _ ?_) k⟩))
    rename_i i j
    show (i.cps ++ j.cps).size ≤ _
    rw [Array.size_append]; exact hz
  · obtain ⟨hz, rfl⟩ := ite_some ee
    obtain ⟨a, xs, rfl, r1, z1, q1⟩ := dq_tup hx
    obtain ⟨b, ys, rfl, r2, z2, q2⟩ := dq_tup hy
    have l1 := q1.1
    have l2 := q2.1
    refine .inr (.inr (.inr (.inl ⟨a, b, xs, ys, rfl, rfl, same_seqT st.sub r1, same_seqT st.sub r2, by omega, fun h0 => ?_, fun h0 h1 => ?_, fun _ _ => ans_tup st (q1.append q2) (by rw [List.length_append]; omega) k⟩)))
    · subst h0
      have : (_ : List PyData) = [] := List.length_eq_zero_iff.mp l1.symm
      subst this
      exact ans_s st hy k
    · subst h1
      have : (_ : List PyData) = [] := List.length_eq_zero_iff.mp l2.symm
      subst this
      rw [List.append_nil] at k
      exact ans_s st hx k
  · exact .inr (.inr (.inr (.inr (d2_catL st hx hy ee (kfrz rfl k)))))
  · cases ee
theorem opAddL : Op2 Xf K (binaryOp .Add) (.l .s) gAddL := ⟨_, fun i => op_catR, d2_catL⟩
theorem opMulL : Op2 Xf K (binaryOp .Mult) (.l .s) gMulL := ⟨_, fun i => op_repR, d2_repL⟩
theorem opSub : Op2 Xf K (binaryOp .Sub) .s gSub := ⟨_, fun i => OpR.or op_subBI op_sub, fun {m G H σ e A x y dx dy d Q} st hx hy ee k => by
  unfold gSub at ee
  split at ee
  · cases ee
    obtain rfl := dq_int hx
    obtain rfl := dq_int hy
    exact .inr ⟨_, _, rfl, rfl, ans_s st (.int _) k⟩
  · cases ee
    obtain rfl := dq_bool hx
    obtain rfl := dq_int hy
    exact .inl ⟨_, _, rfl, rfl, ans_s st (.int _) k⟩
  · cases ee⟩
omit F in
/-- tuple * int, the same tuple again -/
theorem mul_same (l : Addr) (its : Array Value) (n : Nat) (dc : Option Addr) (sl : Array (Option Value)) (x : Int) (u : Tok) (k0 : (decide (x < -(2 ^ 63)) || decide (x ≥ 2 ^ 63)) = false) (k1 : (its.isEmpty || x == 1) = true) :
    Meets (Builtin.«tuple.__mul__» ⟨[.ref l, .int x u], []⟩) (fun _ R s => s.heap.get? l = some { cls := .type "tuple", dict := dc, data := .seq its n, slots := sl } ∧ R (.ok (.ret (Value.ref l))) s) :=
  .of_wp fun prog w A R s h => by
    obtain ⟨hp, gg, dr, tk, os⟩ := s
    obtain ⟨at1, h⟩ := h
    have ix := AutoSeq1.idx_int
    wp_walk using wpAny_loadPart' at1
    repeat (first
      | (refine wpAny_ite_false (decide_eq_false (by rw [k0]; exact Bool.false_ne_true)) ?_; wp_walk using wpAny_loadPart' at1)
      | (refine wpAny_ite_true (decide_eq_true k1) ?_; wp_walk using wpAny_loadPart' at1))
    exact ⟨_, rfl, h⟩
omit F in
/-- tuple * int, nothing is left -/
theorem mul_none (l : Addr) (its : Array Value) (n : Nat) (dc : Option Addr) (sl : Array (Option Value)) (x : Int) (u : Tok) (k0 : (decide (x < -(2 ^ 63)) || decide (x ≥ 2 ^ 63)) = false) (k1 : (its.isEmpty || x == 1) = false) (k2 : (decide (x ≤ 0) || its.isEmpty) = true) :
    Meets (Builtin.«tuple.__mul__» ⟨[.ref l, .int x u], []⟩) (fun _ R s => s.heap.get? l = some { cls := .type "tuple", dict := dc, data := .seq its n, slots := sl } ∧
      R (.ok (.ret (Value.ref s.heap.objs.size))) { s with heap := s.heap.push { cls := Value.type "tuple", data := Data.seq #[] }, toks := s.toks }) :=
  .of_wp fun prog w A R s h => by
    obtain ⟨hp, gg, dr, tk, os⟩ := s
    obtain ⟨at1, h⟩ := h
    have ix := AutoSeq1.idx_int
    wp_walk using wpAny_loadPart' at1
    repeat (first
      | (refine wpAny_ite_false (decide_eq_false (by rw [k0]; exact Bool.false_ne_true)) ?_; wp_walk using wpAny_loadPart' at1)
      | (refine wpAny_ite_false (decide_eq_false (by rw [k1]; exact Bool.false_ne_true)) ?_; wp_walk using wpAny_loadPart' at1)
      | (refine wpAny_ite_true (decide_eq_true k2) ?_; wp_walk using wpAny_loadPart' at1))
    exact ⟨_, rfl, h⟩
def rMulE (K : PySem.W.Frag) : R2 := fun x y H Q => ∃ l k xs, x = .ref l ∧ y = .int k ∧ SqT K H l xs ∧ -1000 ≤ k ∧ k ≤ 1000 ∧ (((xs = [] ∨ k = 1) ∧ Q (.ref l) H) ∨ (xs ≠ [] ∧ k ≤ 0 ∧ NewT H [] Q))
omit F in
theorem op_mulE {X : Cx} : OpR X (binaryOp .Mult) (rMulE X.K) := by
  intro pins s σ H x y v u Q I rx ry h
  obtain ⟨l, k, xs, rfl, rfl, hT, b1, b2, h⟩ := h
  cases rx
  obtain ⟨t, rfl⟩ := ry
  obtain ⟨its, r, ⟨⟨cls, dc, data, sl⟩, ho, hc, n, hd⟩, _⟩ := I.tuple hT
  simp only at hc hd
  subst hc hd
  have le : its.length = xs.length := r.length.symm
  have k0 : (decide (k < -(2 ^ 63)) || decide (k ≥ 2 ^ 63)) = false := by
    rw [decide_eq_false (by omega), decide_eq_false (by omega)]; rfl
  rcases h with ⟨hx, q⟩ | ⟨hx, hk, q⟩
  · have k1 : (its.toArray.isEmpty || k == 1) = true := by
      rcases hx with hx | hx
      · subst hx
        obtain rfl : its = [] := List.eq_nil_of_length_eq_zero le
        rfl
      · subst hx; exact Bool.or_true _
    exact wpAny_binaryOp_repeat_ref (T := "tuple") (U := "int") (by decide) ⟨_, ho, rfl⟩ (fun s' => typeIs_int s' k t) noFill_tuple_mul F.fills_int_mul F.slot_int_rmul repeat_tuple F.slot_int_index.lookup
      (call_meets F.slot_int_rmul (typeIs_int s k t) F.entry_int_rmul (F.args_int_rmul_2 _ _) (int_rmul_tuple k t l its.toArray n dc sl)
        ⟨ho, rfl, ⟨_, ho, rfl⟩, call_meets F.slot_tuple_mul ⟨_, ho, rfl⟩ F.entry_tuple_mul (F.args_tuple_mul_2 _ _) (mul_same l its.toArray n dc sl k t k0 k1) ⟨ho, ⟨.ref l, H, I, rfl, q⟩⟩⟩)
  · have ne : its.toArray.isEmpty = false := by
      cases its with
      | nil => exact absurd (List.eq_nil_of_length_eq_zero le.symm) hx
      | cons a b => rfl
    have k1 : (its.toArray.isEmpty || k == 1) = false := by
      rw [ne, Bool.false_or]
      exact beq_eq_false_iff_ne.mpr (by omega)
    have k2 : (decide (k ≤ 0) || its.toArray.isEmpty) = true := by rw [decide_eq_true hk]; rfl
    refine wpAny_binaryOp_repeat_ref (T := "tuple") (U := "int") (by decide) ⟨_, ho, rfl⟩ (fun s' => typeIs_int s' k t) noFill_tuple_mul F.fills_int_mul F.slot_int_rmul repeat_tuple F.slot_int_index.lookup
      (call_meets F.slot_int_rmul (typeIs_int s k t) F.entry_int_rmul (F.args_int_rmul_2 _ _) (int_rmul_tuple k t l its.toArray n dc sl)
        ⟨ho, rfl, ⟨_, ho, rfl⟩, call_meets F.slot_tuple_mul ⟨_, ho, rfl⟩ F.entry_tuple_mul (F.args_tuple_mul_2 _ _) (mul_none l its.toArray n dc sl k t k0 k1 k2) ⟨ho, ?_⟩⟩)
    exact newT_ep (its := []) I .nil (Nat.zero_le _) q
theorem opMul : Op2 Xf K (binaryOp .Mult) .s gMul := by
  refine ⟨_, fun i => OpR.or op_mul (OpR.or op_repR (OpR.or (kkR (fun X => op_repN) i) (kkR (fun X => op_mulE) i))), fun {m G H σ e A x y dx dy d Q} st hx hy ee k => ?_⟩
  unfold gMul at ee
  split at ee
  · obtain ⟨hz, rfl⟩ := ite_some ee
    obtain rfl := dq_int hx
    obtain rfl := dq_int hy
    refine .inl ⟨_, _, rfl, rfl, ?_, ans_s st (.int _) k⟩
    unfold mulOk at hz
    rcases (Bool.or_eq_true _ _).mp hz with h | h
    · have := of_decide_eq_true h; exact .inl (by omega)
    · have := of_decide_eq_true h; exact .inr (by omega)
  · exact .inr (.inl (d2_repL st hx hy ee (kfrz rfl k)))
  · rename_i kk
    obtain ⟨hz, rfl⟩ := ite_some ee
    obtain ⟨a, xs, rfl, r1, z1, q1⟩ := dq_tup hx
    obtain rfl := dq_int hy
    have l1 := q1.1
    have hz2 : (List.replicate kk.toNat xs).flatten.length ≤ sizeLine := by
      rw [PyProof.Rows.lm_len_rep_flat, l1]
      have h1 : kk.toNat ≤ 1000 := Int.toNat_le.mpr hz.2.1
      exact Nat.le_trans (Nat.mul_le_mul h1 hz.2.2) (by decide)
    have e0 : xs = [] → ∀ ds' : List PyData, ds'.length = xs.length → (List.replicate kk.toNat ds').flatten = ds' := fun h ds' hl => by
      subst h
      obtain rfl := List.eq_nil_of_length_eq_zero hl
      induction kk.toNat with
      | zero => rfl
      | succ n ih => rw [List.replicate_succ, List.flatten_cons, ih]; rfl
    by_cases h0 : xs = []
    · refine .inr (.inr (.inr ⟨a, _, xs, rfl, rfl, same_seqT st.sub r1, hz.1, hz.2.1, .inl ⟨.inl h0, ?_⟩⟩))
      rw [e0 h0 _ l1.symm] at k
      exact ans_s st hx k
    · by_cases h1 : kk = 1
      · subst h1
        refine .inr (.inr (.inr ⟨a, _, xs, rfl, rfl, same_seqT st.sub r1, hz.1, hz.2.1, .inl ⟨.inr rfl, ?_⟩⟩))
        rw [show (1 : Int).toNat = 1 from rfl, List.replicate_one, List.flatten_singleton] at k
        exact ans_s st hx k
      · by_cases h2 : kk ≤ 0
        · refine .inr (.inr (.inr ⟨a, _, xs, rfl, rfl, same_seqT st.sub r1, hz.1, hz.2.1, .inr ⟨h0, h2, ?_⟩⟩))
          rw [Int.toNat_of_nonpos h2, List.replicate_zero, List.flatten_nil] at k
          exact ans_tup st DqA.nil (Nat.zero_le _) k
        · exact .inr (.inr (.inl ⟨a, _, xs, rfl, rfl, same_seqT st.sub r1, h0, by omega, hz.2.1, by omega, ans_tup st (q1.flat _) hz2 k⟩))
  · cases ee
theorem opFdiv : Op2 Xf K (binaryOp .FloorDiv) .s gFdiv := ⟨_, fun i => op_fdivW, fun {m G H σ e A x y dx dy d Q} st hx hy ee k => by
  unfold gFdiv at ee
  split at ee
  · obtain ⟨hz, rfl⟩ := ite_some ee
    obtain rfl := dq_int hx
    obtain rfl := dq_int hy
    exact ⟨_, _, rfl, rfl, hz, ans_s st (.int _) k⟩
  · cases ee⟩
theorem opMod : Op2 Xf K (binaryOp .Mod) .s gMod := ⟨_, fun i => op_mod, fun {m G H σ e A x y dx dy d Q} st hx hy ee k => by
  unfold gMod at ee
  split at ee
  · obtain ⟨hz, rfl⟩ := ite_some ee
    obtain rfl := dq_int hx
    obtain rfl := dq_int hy
    exact ⟨_, _, rfl, rfl, hz, ans_s st (.int _) k⟩
  · cases ee⟩
theorem opPow : Op2 Xf K (binaryOp .Pow) .s gPow := ⟨_, fun i => op_pow, fun {m G H σ e A x y dx dy d Q} st hx hy ee k => by
  unfold gPow at ee
  split at ee
  · obtain ⟨hz, rfl⟩ := ite_some ee
    obtain rfl := dq_int hx
    obtain rfl := dq_int hy
    exact ⟨_, _, rfl, rfl, hz, ans_s st (.int _) k⟩
  · cases ee⟩
theorem pd_neg {m m1 : List Ty} {pos : Pos} {a : Expr} {f : Ef} (ha : PD Xf K m a .s f m1) : PD Xf K m (.UnaryOp .USub a pos) .s (e1 gNeg f) m1 := by
  obtain ⟨ta, pa, da⟩ := ha.ex
  refine ⟨_, fun i => pe_un un_neg (pa i), DE.un da fun {m G H σ e A x dx d Q} st hx ee k => ?_⟩
  unfold gNeg at ee
  split at ee
  · cases ee
    obtain rfl := dq_int hx
    exact ⟨_, rfl, ans_s st (.int _) k⟩
  · cases ee
end

/-! ### subscripts, slices -/
def gIx : PyData → PyData → Option PyData
  | .list xs, .int i => atI xs i
  | .tuple xs, .int i => atI xs i
  | .str z, .int i => (atI z.cps.toList i).map fun c => .str ⟨#[c]⟩
  | _, _ => none
def cutD (ds : List PyData) (lo hi : Option Int) : List PyData := (ds.drop (HT.sIx ds.length 0 lo)).take (HT.sIx ds.length ds.length hi - HT.sIx ds.length 0 lo)
def prt : PyData → Option (Option Int)
  | .int i => some (some i)
  | _ => none
def gSl (x : PyData) (lo hi : Option Int) : Option PyData :=
  match x with
  | .list xs => some (.list (cutD xs lo hi))
  | .tuple xs => some (.tuple (cutD xs lo hi))
  | .str z => some (.str (cutS z lo hi))
  | _ => none
def gSlL (x : PyData) (lo hi : Option Int) : Option PyData :=
  match x with
  | .list xs => some (.list (cutD xs lo hi))
  | _ => none
theorem ixN_len {α β : Type} {xs : List α} {ys : List β} (h : xs.length = ys.length) (i : Int) : ixN xs.length i = ixN ys.length i := by rw [h]
theorem atI_dq {K : PySem.W.Frag} {G : Hp} {xs : List V} {ds : List PyData} (q : DqA K G xs ds) {i : Int} {d : PyData} (h : atI ds i = some d) : ∃ v, atI xs i = some v ∧ Dq K G v d := by
  unfold atI at h ⊢
  obtain ⟨j, hj, hd⟩ := Option.bind_eq_some_iff.mp h
  obtain ⟨v, hv, qv⟩ := q.get hd
  exact ⟨v, by rw [q.1, hj]; exact hv, qv⟩
theorem cut_dq {K : PySem.W.Frag} {G : Hp} {xs : List V} {ds : List PyData} (q : DqA K G xs ds) (lo hi : Option Int) : DqA K G (cutV xs lo hi) (cutD ds lo hi) := by
  unfold cutV cutD
  rw [q.1]
  have hdrop : ∀ k : Nat, DqA K G (xs.drop k) (ds.drop k) := fun k => ⟨by simp [q.1], fun i v d a b => q.2 (k + i) v d (by simpa using a) (by simpa using b)⟩
  have htake : ∀ (k : Nat) (xs : List V) (ds : List PyData), DqA K G xs ds → DqA K G (xs.take k) (ds.take k) := fun k xs ds q => ⟨by simp [q.1], fun i v d a b => by
    rw [List.getElem?_take] at a b
    split at a
    · rename_i hi; rw [if_pos hi] at b; exact q.2 i v d a b
    · cases a⟩
  exact htake _ _ _ (hdrop _)
theorem cutD_all {ds : List PyData} {lo hi : Option Int} (h : HT.sIx ds.length 0 lo = 0 ∧ HT.sIx ds.length ds.length hi = ds.length) : cutD ds lo hi = ds := by
  unfold cutD
  rw [h.1, h.2]
  simp
theorem cutS_len (z : Str) (lo hi : Option Int) : (cutS z lo hi).length ≤ z.length := by
  unfold cutS
  show ((z.cps.toList.drop _).take _).toArray.size ≤ z.cps.size
  rw [List.size_toArray, List.length_take, List.length_drop, Array.length_toList]
  omega
abbrev Of := En → Option (Option Int × En)
def oNone : Of := fun e => some (none, e)
def oSome (f : Ef) : Of := fun e => (f e).bind fun p => (prt p.1).bind fun i => some (i, p.2)
def DO (K : PySem.W.Frag) (m : List Ty) (t : TO) (f : Of) (m' : List Ty) : Prop :=
  ∀ {G H : Hp} {σ : St} {e : En} {A : List Addr} {o : Option Int} {e' : En} {Q : Option Int → Hp → Prop}, Stt K m G H σ e A → f e = some (o, e') →
    (∀ (G' H' : Hp) (A' : List Addr), Step A G H A' G' H' → Stt K m' G' H' σ e' A' → Q o H') → t σ H Q
structure PP {ι : Type} (Xf : ι → Cx) (K : PySem.W.Frag) (m : List Ty) (e : Option Expr) (f : Of) (m' : List Ty) : Prop where
  ex : ∃ t : TO, (∀ i, PO (Xf i) e t) ∧ DO K m t f m'
def eSl (gg : PyData → Option Int → Option Int → Option PyData) (a : Ef) (l u : Of) : Ef := fun e => (a e).bind fun p => (l p.2).bind fun q => (u q.2).bind fun r => (gg p.1 q.1 r.1).bind fun d => some (d, r.2)

section
variable {ι : Type} {Xf : ι → Cx} {P : Program} {w : World} {K : PySem.W.Frag} {mg : Str → Option Value} {base : Heap} {n : Nat} [F : Fam Xf P w K mg base n]
variable {m m1 m2 m3 : List Ty} {pos p p2 : Pos} {a b c : Expr} {f g h : Ef}
include F
theorem kkIx {r : PySem.W.Frag → R2} (h : ∀ X : Cx, IxR X (r X.K)) (i : ι) : IxR (Xf i) (r K) := by
  have := h (Xf i)
  rw [F.kk i] at this
  exact this
theorem ixAny : Ix2 Xf K .s gIx := by
  refine ⟨_, fun i => IxR.or (kkIx (fun X => ix_list) i) (IxR.or (kkIx (fun X => ix_tup) i) ix_str), fun {m G H σ e A x y dx dy d Q} st hx hy ee k => ?_⟩
  unfold gIx at ee
  split at ee
  · obtain ⟨a, xs, rfl, r1, z1, q1⟩ := dq_lst hx
    obtain rfl := dq_int hy
    obtain ⟨v, hv, qv⟩ := atI_dq q1 ee
    exact .inl ⟨_, _, _, v, rfl, rfl, .inl (same_rd st.sub r1), hv, ans_s st qv k⟩
  · obtain ⟨a, xs, rfl, r1, z1, q1⟩ := dq_tup hx
    obtain rfl := dq_int hy
    obtain ⟨v, hv, qv⟩ := atI_dq q1 ee
    exact .inr (.inl ⟨_, _, _, v, rfl, rfl, same_seqT st.sub r1, hv, ans_s st qv k⟩)
  · obtain ⟨rfl, z1⟩ := dq_str hx
    obtain rfl := dq_int hy
    obtain ⟨cc, hc, rfl⟩ := Option.map_eq_some_iff.mp ee
    exact .inr (.inr ⟨_, _, cc, rfl, rfl, z1, hc, ans_s st (.str _ (by show 1 ≤ sizeLine; decide)) k⟩)
  · cases ee
omit F in
theorem pp_none : PP Xf K m none oNone m := ⟨_, fun i => po_none, fun st hf k => by cases hf; exact k _ _ _ Step.refl st⟩
omit F in
theorem pp_some (ha : PD Xf K m a .s f m1) : PP Xf K m (some a) (oSome f) m1 := by
  obtain ⟨ta, pa, da⟩ := ha.ex
  refine ⟨_, fun i => po_some (pa i), fun {G H σ e A o e' Q} st hf k => ?_⟩
  unfold oSome at hf
  obtain ⟨⟨d1, e1⟩, hf1, hf⟩ := Option.bind_eq_some_iff.mp hf
  obtain ⟨o1, hf2, hf⟩ := Option.bind_eq_some_iff.mp hf
  cases hf
  refine da st hf1 fun G1 H1 v1 A1 B1 s1 st1 o1 nd1 => ?_
  cases o1 with
  | s q1 =>
    cases d1 with
    | int i =>
      cases hf2
      obtain rfl := dq_int q1
      exact ⟨i, rfl, k _ _ _ s1 st1⟩
    | _ => cases hf2
theorem kkSl {r : PySem.W.Frag → V → Option Int → Option Int → Hp → VK → Prop} (h : ∀ X : Cx, SlR X (r X.K)) (i : ι) : SlR (Xf i) (r K) := by
  have := h (Xf i)
  rw [F.kk i] at this
  exact this
theorem pd_slice {lo hi : Option Expr} {fl fu : Of} (ha : PD Xf K m a .s f m1) (hl : PP Xf K m1 lo fl m2) (hu : PP Xf K m2 hi fu m3) : PD Xf K m (.Subscript a (.Slice lo hi none p2) pos) .s (eSl gSl f fl fu) m3 := by
  obtain ⟨ta, pa, da⟩ := ha.ex
  obtain ⟨tl, pl, dl⟩ := hl.ex
  obtain ⟨tu, pu, du⟩ := hu.ex
  refine ⟨_, fun i => pe_slice (SlR.or (kkSl (fun X => sl_list) i) (SlR.or (kkSl (fun X => sl_tupN) i) sl_str)) (pa i) (pl i) (pu i), fun {G H σ e A d e' Q} st hf k => ?_⟩
  unfold eSl at hf
  obtain ⟨⟨d1, e1⟩, hf1, hf⟩ := Option.bind_eq_some_iff.mp hf
  obtain ⟨⟨lo1, e2⟩, hf2, hf⟩ := Option.bind_eq_some_iff.mp hf
  obtain ⟨⟨hi1, e3⟩, hf3, hf⟩ := Option.bind_eq_some_iff.mp hf
  obtain ⟨d2, hf4, hf⟩ := Option.bind_eq_some_iff.mp hf
  cases hf
  refine da st hf1 fun G1 H1 v1 A1 B1 s1 st1 o1 nd1 => ?_
  cases o1 with
  | s q1 =>
    refine dl st1 hf2 fun G2 H2 A2 s2 st2 => du st2 hf3 fun G3 H3 A3 s3 st3 => ?_
    have q3 := q1.mono (s2.sg.trans s3.sg)
    have s0 : Step A G H A3 G3 H3 := (s1.seq0 s2).seq0 s3
    have k' : ∀ (G' H' : Hp) (v : V) (Av A' : List Addr), Step A3 G3 H3 (Av ++ A') G' H' → Stt K m3 G' H' σ e3 A' → Own K G' H' .s d (some v) Av → (Av ++ A').Nodup → Q v H' := fun G' H' v Av A' s4 st4 o4 nd4 => k G' H' v Av A' (s0.seq0 s4) st4 o4 nd4
    cases d1 with
    | list ds =>
      cases hf4
      obtain ⟨a, xs, rfl, r1, z1, q1⟩ := dq_lst q3
      exact .inl ⟨a, xs, rfl, .inl (same_rd st3.sub r1), ans_lst st3 (cut_dq q1 _ _) (Nat.le_trans (cutV_length _ _ _) z1) (kfrz rfl k')⟩
    | tuple ds =>
      cases hf4
      obtain ⟨a, xs, rfl, r1, z1, q1⟩ := dq_tup q3
      refine .inr (.inl ⟨a, xs, rfl, same_seqT st3.sub r1, fun hw => ?_, fun _ => ans_tup st3 (cut_dq q1 _ _) (Nat.le_trans (cutV_length _ _ _) z1) k'⟩)
      rw [q1.1] at hw
      rw [cutD_all hw] at k'
      exact ans_s st3 q3 k'
    | str z =>
      cases hf4
      obtain ⟨rfl, z1⟩ := dq_str q3
      exact .inr (.inr ⟨_, rfl, z1, ans_s st3 (.str _ (Nat.le_trans (cutS_len _ _ _) z1)) k'⟩)
    | _ => cases hf4
/-- a slice of a list, kept as one's own -/
theorem pd_sliceL {lo hi : Option Expr} {fl fu : Of} (ha : PD Xf K m a .s f m1) (hl : PP Xf K m1 lo fl m2) (hu : PP Xf K m2 hi fu m3) : PD Xf K m (.Subscript a (.Slice lo hi none p2) pos) (.l .s) (eSl gSlL f fl fu) m3 := by
  obtain ⟨ta, pa, da⟩ := ha.ex
  obtain ⟨tl, pl, dl⟩ := hl.ex
  obtain ⟨tu, pu, du⟩ := hu.ex
  refine ⟨_, fun i => pe_slice (kkSl (fun X => sl_list) i) (pa i) (pl i) (pu i), fun {G H σ e A d e' Q} st hf k => ?_⟩
  unfold eSl at hf
  obtain ⟨⟨d1, e1⟩, hf1, hf⟩ := Option.bind_eq_some_iff.mp hf
  obtain ⟨⟨lo1, e2⟩, hf2, hf⟩ := Option.bind_eq_some_iff.mp hf
  obtain ⟨⟨hi1, e3⟩, hf3, hf⟩ := Option.bind_eq_some_iff.mp hf
  obtain ⟨d2, hf4, hf⟩ := Option.bind_eq_some_iff.mp hf
  cases hf
  refine da st hf1 fun G1 H1 v1 A1 B1 s1 st1 o1 nd1 => ?_
  cases o1 with
  | s q1 =>
    refine dl st1 hf2 fun G2 H2 A2 s2 st2 => du st2 hf3 fun G3 H3 A3 s3 st3 => ?_
    have q3 := q1.mono (s2.sg.trans s3.sg)
    have s0 : Step A G H A3 G3 H3 := (s1.seq0 s2).seq0 s3
    have k' : ∀ (G' H' : Hp) (v : V) (Av A' : List Addr), Step A3 G3 H3 (Av ++ A') G' H' → Stt K m3 G' H' σ e3 A' → Own K G' H' (.l .s) d (some v) Av → (Av ++ A').Nodup → Q v H' := fun G' H' v Av A' s4 st4 o4 nd4 => k G' H' v Av A' (s0.seq0 s4) st4 o4 nd4
    cases d1 with
    | list ds =>
      cases hf4
      obtain ⟨a, xs, rfl, r1, z1, q1⟩ := dq_lst q3
      exact ⟨a, xs, rfl, .inl (same_rd st3.sub r1), ans_lst st3 (cut_dq q1 _ _) (Nat.le_trans (cutV_length _ _ _) z1) k'⟩
    | _ => cases hf4
end
end DL

namespace DL
open PySem L2 PySem.Spec

/-! ### tests, and, or, not, conditional values -/
def gTruth : PyData → Option Bool
  | .none => some false
  | .bool b => some b
  | .int i => some (i != 0)
  | .str y => some ((y.length : Int) != 0)
  | .list xs => some (!xs.isEmpty)
  | .tuple xs => some (!xs.isEmpty)
  | _ => none
def bOf (f : Ef) : Bf := fun e => (f e).bind fun p => (gTruth p.1).bind fun b => some (b, p.2)
def bAnd (f g : Bf) : Bf := fun e => (f e).bind fun p => if p.1 = true then g p.2 else some (false, p.2)
def bOr (f g : Bf) : Bf := fun e => (f e).bind fun p => if p.1 = true then some (true, p.2) else g p.2
def bNot (f : Bf) : Bf := fun e => (f e).bind fun p => some (!p.1, p.2)
def eAnd (f g : Ef) : Ef := fun e => (f e).bind fun p => match p.1 with
  | .bool true => g p.2
  | .bool false => some (.bool false, p.2)
  | _ => none
def eOr (f g : Ef) : Ef := fun e => (f e).bind fun p => match p.1 with
  | .bool true => some (.bool true, p.2)
  | .bool false => g p.2
  | _ => none
def eNot (f : Ef) : Ef := e1 (fun d => match d with | .bool b => some (.bool (!b)) | _ => none) f
def eIf (c : Bf) (f g : Ef) : Ef := fun e => (c e).bind fun p => if p.1 = true then f p.2 else g p.2
def eChain (g1 g2 : PyData → PyData → Option PyData) (a b c : Ef) : Ef := fun e => (a e).bind fun p => (b p.2).bind fun q => (g1 p.1 q.1).bind fun r => match r with
  | .bool true => (c q.2).bind fun t => (g2 q.1 t.1).bind fun z => some (z, t.2)
  | .bool false => some (.bool false, q.2)
  | _ => none

section
variable {ι : Type} {Xf : ι → Cx} {P : Program} {w : World} {K : PySem.W.Frag} {mg : Str → Option Value} {base : Heap} {n : Nat} [F : Fam Xf P w K mg base n]
variable {m m1 m2 m3 : List Ty} {pos p p2 : Pos} {a b c : Expr} {f g h : Ef} {fb gb : Bf} {ty : Ty} {rest : List Expr}

theorem truV_of {G H : Hp} {v : V} {d : PyData} {b : Bool} (q : Dq K G v d) (sub : Same G H) (h : gTruth d = some b) : TruV K v H b := by
  cases q with
  | non => cases h; rfl
  | bl => cases h; rfl
  | int => cases h; rfl
  | str x hx => cases h; exact ⟨hx, rfl⟩
  | @lst a xs ds hs hl hz _ =>
    cases h
    refine .inl ⟨xs, .inl (same_rd sub hs), ?_⟩
    cases xs <;> cases ds <;> simp_all
  | @tup a xs ds hs hl hz _ =>
    cases h
    refine .inr (.inl ⟨xs, same_seqT sub hs.sq, ?_⟩)
    cases xs <;> cases ds <;> simp_all
  | dic => cases h
include F in
theorem pb_of (ha : PD Xf K m a .s f m1) (he : ∀ i whole, isTrue a (Xf i).env whole = (do let v ← whole; standAt a.pos; holding [v] (truthy v)) := by intro _ _; rfl) : PB Xf K m a (bOf f) m1 := by
  obtain ⟨ta, pa, da⟩ := ha.ex
  refine ⟨fun σ H Q => ta σ H fun x H' => ∃ k, TruV K x H' k ∧ Q k H', fun i => ?_, fun {G H σ e A b e' Q} st hf k => ?_⟩
  · have := pt_truth (X := Xf i) (pa i) (he i)
    rw [F.kk i] at this
    exact this
  · unfold bOf at hf
    obtain ⟨⟨d1, e1⟩, hf1, hf⟩ := Option.bind_eq_some_iff.mp hf
    obtain ⟨b1, hf2, hf⟩ := Option.bind_eq_some_iff.mp hf
    cases hf
    refine da st hf1 fun G1 H1 v1 A1 B1 s1 st1 o1 nd1 => ?_
    cases o1 with
    | s q1 => exact ⟨_, truV_of q1 st1.sub hf2, k _ _ _ s1 st1⟩
theorem DT.and {t u : TT} (ha : DT K m t fb m1) (hb : DT K m1 u gb m1) : DT K m (tAnd t u) (bAnd fb gb) m1 := by
  intro G H σ e A b e' Q st hf k
  unfold bAnd at hf
  obtain ⟨⟨b1, e1⟩, hf1, hf⟩ := Option.bind_eq_some_iff.mp hf
  refine ha st hf1 fun G1 H1 A1 s1 st1 => ?_
  cases b1 with
  | true => rw [if_pos rfl] at hf ⊢; exact hb st1 hf fun G2 H2 A2 s2 st2 => k _ _ _ (s1.seq0 s2) st2
  | false => rw [if_neg (by simp)] at hf ⊢; cases hf; exact k _ _ _ s1 st1
theorem DT.or {t u : TT} (ha : DT K m t fb m1) (hb : DT K m1 u gb m1) : DT K m (tOr t u) (bOr fb gb) m1 := by
  intro G H σ e A b e' Q st hf k
  unfold bOr at hf
  obtain ⟨⟨b1, e1⟩, hf1, hf⟩ := Option.bind_eq_some_iff.mp hf
  refine ha st hf1 fun G1 H1 A1 s1 st1 => ?_
  cases b1 with
  | true => rw [if_pos rfl] at hf ⊢; cases hf; exact k _ _ _ s1 st1
  | false => rw [if_neg (by simp)] at hf ⊢; exact hb st1 hf fun G2 H2 A2 s2 st2 => k _ _ _ (s1.seq0 s2) st2
theorem pbw_and1 (ha : PB Xf K m a fb m1) : PBw Xf K m (.BoolOp .And [a] pos) fb m1 := by
  obtain ⟨ta, pa, da⟩ := ha.ex
  exact ⟨ta, fun i => pw_and1 (pa i), da⟩
theorem pbw_or1 (ha : PB Xf K m a fb m1) : PBw Xf K m (.BoolOp .Or [a] pos) fb m1 := by
  obtain ⟨ta, pa, da⟩ := ha.ex
  exact ⟨ta, fun i => pw_or1 (pa i), da⟩
theorem pbw_and (ha : PB Xf K m a fb m1) (hb : PBw Xf K m1 (.BoolOp .And (b :: rest) pos) gb m1) : PBw Xf K m (.BoolOp .And (a :: b :: rest) pos) (bAnd fb gb) m1 := by
  obtain ⟨ta, pa, da⟩ := ha.ex
  obtain ⟨tb, pb, db⟩ := hb.ex
  exact ⟨_, fun i => pw_and (pa i) (pb i), DT.and da db⟩
theorem pbw_or (ha : PB Xf K m a fb m1) (hb : PBw Xf K m1 (.BoolOp .Or (b :: rest) pos) gb m1) : PBw Xf K m (.BoolOp .Or (a :: b :: rest) pos) (bOr fb gb) m1 := by
  obtain ⟨ta, pa, da⟩ := ha.ex
  obtain ⟨tb, pb, db⟩ := hb.ex
  exact ⟨_, fun i => pw_or (pa i) (pb i), DT.or da db⟩
theorem pb_w (ha : PBw Xf K m a fb m1) : PB Xf K m a fb m1 := by
  obtain ⟨ta, pa, da⟩ := ha.ex
  exact ⟨ta, fun i => (pa i).pt, da⟩
theorem pb_not (ha : PB Xf K m a fb m1) : PB Xf K m (.UnaryOp .Not a pos) (bNot fb) m1 := by
  obtain ⟨ta, pa, da⟩ := ha.ex
  refine ⟨_, fun i => pt_not (pa i), fun {G H σ e A b e' Q} st hf k => ?_⟩
  unfold bNot at hf
  obtain ⟨⟨b1, e1⟩, hf1, hf⟩ := Option.bind_eq_some_iff.mp hf
  cases hf
  exact da st hf1 fun G1 H1 A1 s1 st1 => k _ _ _ s1 st1
theorem pd_and1 (ha : PD Xf K m a .s f m1) : PD Xf K m (.BoolOp .And [a] pos) .s f m1 := by
  obtain ⟨ta, pa, da⟩ := ha.ex
  exact ⟨ta, fun i => pe_one (pa i), da⟩
theorem pd_or1 (ha : PD Xf K m a .s f m1) : PD Xf K m (.BoolOp .Or [a] pos) .s f m1 := by
  obtain ⟨ta, pa, da⟩ := ha.ex
  exact ⟨ta, fun i => pe_one (pa i), da⟩
theorem pd_and (ha : PD Xf K m a .s f m1) (hb : PD Xf K m1 (.BoolOp .And (b :: rest) pos) .s g m1) : PD Xf K m (.BoolOp .And (a :: b :: rest) pos) .s (eAnd f g) m1 := by
  obtain ⟨ta, pa, da⟩ := ha.ex
  obtain ⟨tb, pb, db⟩ := hb.ex
  refine ⟨_, fun i => pe_and (pa i) (pb i), fun {G H σ e A d e' Q} st hf k => ?_⟩
  unfold eAnd at hf
  obtain ⟨⟨d1, e1⟩, hf1, hf⟩ := Option.bind_eq_some_iff.mp hf
  refine da st hf1 fun G1 H1 v1 A1 B1 s1 st1 o1 nd1 => ?_
  cases o1 with
  | s q1 =>
    cases q1 with
    | bl b1 =>
      cases b1 with
      | true => exact ⟨true, rfl, db st1 hf fun G2 H2 v2 A2 B2 s2 st2 o2 nd2 => k _ _ _ _ _ (s1.seq0 s2) st2 o2 nd2⟩
      | false => cases hf; exact ⟨false, rfl, ans_s st1 (.bl false) fun G2 H2 v2 A2 B2 s2 st2 o2 nd2 => k _ _ _ _ _ (s1.seq0 s2) st2 o2 nd2⟩
    | _ => cases hf
theorem pd_or (ha : PD Xf K m a .s f m1) (hb : PD Xf K m1 (.BoolOp .Or (b :: rest) pos) .s g m1) : PD Xf K m (.BoolOp .Or (a :: b :: rest) pos) .s (eOr f g) m1 := by
  obtain ⟨ta, pa, da⟩ := ha.ex
  obtain ⟨tb, pb, db⟩ := hb.ex
  refine ⟨_, fun i => pe_or (pa i) (pb i), fun {G H σ e A d e' Q} st hf k => ?_⟩
  unfold eOr at hf
  obtain ⟨⟨d1, e1⟩, hf1, hf⟩ := Option.bind_eq_some_iff.mp hf
  refine da st hf1 fun G1 H1 v1 A1 B1 s1 st1 o1 nd1 => ?_
  cases o1 with
  | s q1 =>
    cases q1 with
    | bl b1 =>
      cases b1 with
      | false => exact ⟨false, rfl, db st1 hf fun G2 H2 v2 A2 B2 s2 st2 o2 nd2 => k _ _ _ _ _ (s1.seq0 s2) st2 o2 nd2⟩
      | true => cases hf; exact ⟨true, rfl, ans_s st1 (.bl true) fun G2 H2 v2 A2 B2 s2 st2 o2 nd2 => k _ _ _ _ _ (s1.seq0 s2) st2 o2 nd2⟩
    | _ => cases hf
theorem pd_not (ha : PD Xf K m a .s f m1) : PD Xf K m (.UnaryOp .Not a pos) .s (eNot f) m1 := by
  obtain ⟨ta, pa, da⟩ := ha.ex
  refine ⟨_, fun i => pe_not (pa i), DE.un (r := fun x H Q => ∃ c, x = .bl c ∧ Q (.bl (!c)) H) da fun {m G H σ e A x dx d Q} st hx ee k => ?_⟩
  split at ee
  · cases ee
    obtain rfl := dq_bool hx
    exact ⟨_, rfl, ans_s st (.bl _) k⟩
  · cases ee
theorem pd_ifexp (hc : PB Xf K m c fb m1) (ha : PD Xf K m1 a ty f m2) (hb : PD Xf K m1 b ty g m2) : PD Xf K m (.IfExp c a b pos) ty (eIf fb f g) m2 := by
  obtain ⟨tc, pc, dc⟩ := hc.ex
  obtain ⟨ta, pa, da⟩ := ha.ex
  obtain ⟨tb, pb, db⟩ := hb.ex
  refine ⟨_, fun i => pe_ifExp (pc i) (pa i) (pb i), fun {G H σ e A d e' Q} st hf k => ?_⟩
  unfold eIf at hf
  obtain ⟨⟨b1, e1⟩, hf1, hf⟩ := Option.bind_eq_some_iff.mp hf
  refine dc st hf1 fun G1 H1 A1 s1 st1 => ?_
  cases b1 with
  | true => rw [if_pos rfl] at hf ⊢; exact da st1 hf fun G2 H2 v2 A2 B2 s2 st2 o2 nd2 => k _ _ _ _ _ (s1.seq0 s2) st2 o2 nd2
  | false => rw [if_neg (by simp)] at hf ⊢; exact db st1 hf fun G2 H2 v2 A2 B2 s2 st2 o2 nd2 => k _ _ _ _ _ (s1.seq0 s2) st2 o2 nd2
theorem DE.chain {r r' : R2} {ta tb tc : TE} {g1 g2 : PyData → PyData → Option PyData} (ha : DE K m ta .s f m1) (hb : DE K m1 tb .s g m2) (hc : DE K m2 tc .s h m2) (hr : D2 K r .s g1) (hr' : D2 K r' .s g2) : DE K m (tChain r r' ta tb tc) .s (eChain g1 g2 f g h) m2 := by
  intro G H σ e A d e' Q st hf k
  unfold eChain at hf
  obtain ⟨⟨d1, e1⟩, hf1, hf⟩ := Option.bind_eq_some_iff.mp hf
  obtain ⟨⟨d2, e2⟩, hf2, hf⟩ := Option.bind_eq_some_iff.mp hf
  obtain ⟨d3, hf3, hf⟩ := Option.bind_eq_some_iff.mp hf
  refine ha st hf1 fun G1 H1 v1 A1 B1 s1 st1 o1 nd1 => ?_
  cases o1 with
  | s q1 =>
    refine hb st1 hf2 fun G2 H2 v2 A2 B2 s2 st2 o2 nd2 => ?_
    cases o2 with
    | s q2 =>
      refine hr st2 (q1.mono s2.sg) q2 hf3 fun G3 H3 v3 A3 B3 s3 st3 o3 nd3 => ?_
      cases o3 with
      | s q3 =>
        have s03 := (s1.seq0 s2).seq0 s3
        cases q3 with
        | bl b3 =>
          refine ⟨b3, rfl, ?_⟩
          cases b3 with
          | true =>
            rw [if_pos rfl]
            obtain ⟨⟨d4, e4⟩, hf4, hf⟩ := Option.bind_eq_some_iff.mp hf
            obtain ⟨d5, hf5, hf⟩ := Option.bind_eq_some_iff.mp hf
            cases hf
            refine hc st3 hf4 fun G4 H4 v4 A4 B4 s4 st4 o4 nd4 => ?_
            cases o4 with
            | s q4 => exact hr' st4 (q2.mono (s3.sg.trans s4.sg)) q4 hf5 fun G5 H5 v5 A5 B5 s5 st5 o5 nd5 => k _ _ _ _ _ ((s03.seq0 s4).seq0 s5) st5 o5 nd5
          | false =>
            rw [if_neg (by simp)]
            cases hf
            exact ans_s st3 (.bl false) fun G5 H5 v5 A5 B5 s5 st5 o5 nd5 => k _ _ _ _ _ (s03.seq0 s5) st5 o5 nd5
        | _ => cases hf
theorem pd_chain {op op' : CmpOp} {g1 g2 : PyData → PyData → Option PyData} (ho : Op2 Xf K (compareOp op) .s g1) (ho' : Op2 Xf K (compareOp op') .s g2) (ha : PD Xf K m a .s f m1) (hb : PD Xf K m1 b .s g m2) (hc : PD Xf K m2 c .s h m2)
    (hm : lastMarks [op, op'] [b, c] = false := by with_unfolding_all rfl) : PD Xf K m (.Compare a [op, op'] [b, c] pos) .s (eChain g1 g2 f g h) m2 := by
  obtain ⟨r, hr, dr⟩ := ho.ex
  obtain ⟨r', hr', dr'⟩ := ho'.ex
  obtain ⟨ta, pa, da⟩ := ha.ex
  obtain ⟨tb, pb, db⟩ := hb.ex
  obtain ⟨tc, pc, dc⟩ := hc.ex
  exact ⟨_, fun i => pe_chain (hr i) (hr' i) (pa i) (pb i) (pc i) hm, DE.chain da db dc dr dr'⟩
/-- a comparison, a chain, as a test -/
theorem DE.test {te : TE} (ha : DE K m te .s f m1) : DT K m (tTest te) (fun e => (f e).bind fun p => match p.1 with | .bool b => some (b, p.2) | _ => none) m1 := by
  intro G H σ e A b e' Q st hf k
  obtain ⟨⟨d1, e1⟩, hf1, hf⟩ := Option.bind_eq_some_iff.mp hf
  refine ha st hf1 fun G1 H1 v1 A1 B1 s1 st1 o1 nd1 => ?_
  cases o1 with
  | s q1 =>
    cases q1 with
    | bl b1 => cases hf; exact ⟨_, rfl, k _ _ _ s1 st1⟩
    | _ => cases hf
end
def bT (f : Ef) : Bf := fun e => (f e).bind fun p => match p.1 with | .bool b => some (b, p.2) | _ => none
section
variable {ι : Type} {Xf : ι → Cx} {P : Program} {w : World} {K : PySem.W.Frag} {mg : Str → Option Value} {base : Heap} {n : Nat} [F : Fam Xf P w K mg base n]
variable {m m1 m2 m3 : List Ty} {pos p p2 : Pos} {a b c : Expr} {f g h : Ef} {fb gb : Bf} {ty : Ty} {rest : List Expr}
theorem pb_cmp {op : CmpOp} {gg : PyData → PyData → Option PyData} (ho : Op2 Xf K (compareOp op) .s gg) (ha : PD Xf K m a .s f m1) (hb : PD Xf K m1 b .s g m2) (hm : behindInMarks op b = false := by first | exact nomark _ | rfl) : PB Xf K m (.Compare a [op] [b] pos) (bT (e2 gg f g)) m2 := by
  obtain ⟨r, hr, dr⟩ := ho.ex
  obtain ⟨ta, pa, da⟩ := ha.ex
  obtain ⟨tb, pb, db⟩ := hb.ex
  exact ⟨_, fun i => pt_cmpR (hr i) (pa i) (pb i) hm, DE.test (DE.bin da db dr)⟩
theorem pb_chain {op op' : CmpOp} {g1 g2 : PyData → PyData → Option PyData} (ho : Op2 Xf K (compareOp op) .s g1) (ho' : Op2 Xf K (compareOp op') .s g2) (ha : PD Xf K m a .s f m1) (hb : PD Xf K m1 b .s g m2) (hc : PD Xf K m2 c .s h m2)
    (hm : lastMarks [op, op'] [b, c] = false := by with_unfolding_all rfl) : PB Xf K m (.Compare a [op, op'] [b, c] pos) (bT (eChain g1 g2 f g h)) m2 := by
  obtain ⟨r, hr, dr⟩ := ho.ex
  obtain ⟨r', hr', dr'⟩ := ho'.ex
  obtain ⟨ta, pa, da⟩ := ha.ex
  obtain ⟨tb, pb, db⟩ := hb.ex
  obtain ⟨tc, pc, dc⟩ := hc.ex
  exact ⟨_, fun i => pt_chain (hr i) (hr' i) (pa i) (pb i) (pc i) hm, DE.test (DE.chain da db dc dr dr')⟩
end

/-! ### argument lists: with slots that are lent -/
def LendOk (σ : St) (vs : List V) (L : List (Option Nat)) : Prop := ∀ k j : Nat, L[k]? = some (some j) → ∃ v, vs[k]? = some v ∧ σ[j]? = some (some v)
def DAL (K : PySem.W.Frag) (m : List Ty) (ta : TA) (tys : List Ty) (L : List (Option Nat)) (f : Lf) (m' : List Ty) : Prop :=
  ∀ {G H : Hp} {σ : St} {e : En} {A : List Addr} {ds : List PyData} {e' : En} {Q : List V → Hp → Prop}, Stt K m G H σ e A → f e = some (ds, e') →
    (∀ (G' H' : Hp) (vs : List V) (Av A' : List Addr), Step A G H (Av ++ A') G' H' → Stt K m' G' H' σ e' A' → OwnA K G' H' tys ds (vs.map some) Av → (Av ++ A').Nodup → LendOk σ vs L → Q vs H') → ta σ H Q
structure PAL {ι : Type} (Xf : ι → Cx) (K : PySem.W.Frag) (m : List Ty) (es : List Expr) (tys : List Ty) (L : List (Option Nat)) (f : Lf) (m' : List Ty) : Prop where
  ex : ∃ ta : TA, (∀ i, PA (Xf i) es ta) ∧ DAL K m ta tys L f m'
def lNil : Lf := fun e => some ([], e)
def lCons (f : Ef) (r : Lf) : Lf := fun e => (f e).bind fun p => (r p.2).bind fun q => some (p.1 :: q.1, q.2)
def eLend : Ef := fun e => some (.none, e)
section
variable {ι : Type} {Xf : ι → Cx} {P : Program} {w : World} {K : PySem.W.Frag} {mg : Str → Option Value} {base : Heap} {n : Nat} [F : Fam Xf P w K mg base n]
variable {m m1 m2 m3 : List Ty} {pos p p2 : Pos} {a b c : Expr} {es : List Expr} {f g h : Ef} {fr : Lf} {ty : Ty} {tys : List Ty} {L : List (Option Nat)}
theorem pl_nil : PAL Xf K m [] [] [] lNil m := ⟨_, fun i => pa_nil, fun {G H σ e A ds e' Q} st hf k => by
  cases hf
  exact k G H [] [] A Step.refl st .nil st.nd fun k j h => by simp at h⟩
theorem DAL.cons {te : TE} {ta : TA} (ha : DE K m te ty f m1) (hr : DAL K m1 ta tys L fr m2) : DAL K m (tCons te ta) (ty :: tys) (none :: L) (lCons f fr) m2 := by
  intro G H σ e A ds e' Q st hf k
  unfold lCons at hf
  obtain ⟨⟨d1, e1⟩, hf1, hf⟩ := Option.bind_eq_some_iff.mp hf
  obtain ⟨⟨ds1, e2⟩, hf2, hf⟩ := Option.bind_eq_some_iff.mp hf
  cases hf
  refine ha st hf1 fun G1 H1 v1 A1 B1 s1 st1 o1 nd1 => hr st1 hf2 fun G2 H2 vs A2 B2 s2 st2 o2 nd2 hl => ?_
  obtain ⟨s3, nd3, hg, hh⟩ := s1.seq (own_at o1) nd1 s2 nd2
  rw [← List.append_assoc] at s3 nd3
  refine k G2 H2 (v1 :: vs) (A1 ++ A2) B2 s3 st2 (.cons (own_fr o1 s2.sg hg hh) o2) nd3 fun kk j hj => ?_
  cases kk with
  | zero => simp at hj
  | succ kk => exact hl kk j (by simpa using hj)
theorem pl_cons (ha : PD Xf K m a ty f m1) (hr : PAL Xf K m1 es tys L fr m2) (hs : ∀ i, starEach (a :: es) (Xf i).env = (false, eval a (Xf i).env) :: starEach es (Xf i).env := by intro _; rfl) : PAL Xf K m (a :: es) (ty :: tys) (none :: L) (lCons f fr) m2 := by
  obtain ⟨ta, pa, da⟩ := ha.ex
  obtain ⟨tr, pr, dr⟩ := hr.ex
  exact ⟨_, fun i => pa_cons (pa i) (pr i) (hs i), DAL.cons da dr⟩
/-- a slot's own object handed in as it is -/
theorem pl_lend (j : Nat) {x : Str} {t : Ty} (hr : PAL Xf K m es tys L fr m2) (hm : m[j]? = some t := by rfl) (hu : t ≠ .u := by exact fun z => nomatch z) (hN : ∀ i, (Xf i).N[j]? = some x := by intro _; rfl)
    (hv : ∀ i, Vis (Xf i).env.scope x := by first | (intro _; exact Or.inl rfl) | (intro _; exact Or.inr (Or.inl rfl)) | (intro _; exact Or.inr (Or.inr rfl))) (hd : (x == ("__debug__" : Str)) = false := by decide)
    (hcd : (x == ("__classdict__" : Str)) = false := by decide) (hs : ∀ i, starEach (.Name x pos :: es) (Xf i).env = (false, eval (.Name x pos) (Xf i).env) :: starEach es (Xf i).env := by intro _; rfl) :
    PAL Xf K m (.Name x pos :: es) (.u :: tys) (some j :: L) (lCons eLend fr) m2 := by
  obtain ⟨tr, pr, dr⟩ := hr.ex
  refine ⟨_, fun i => pa_cons (pe_var (i := j) (hN i) (hv i) hd hcd) (pr i) (hs i), fun {G H σ e A ds e' Q} st hf k => ?_⟩
  unfold lCons eLend at hf
  obtain ⟨⟨d1, e1⟩, hf1, hf⟩ := Option.bind_eq_some_iff.mp hf
  cases hf1
  obtain ⟨⟨ds1, e2⟩, hf2, hf⟩ := Option.bind_eq_some_iff.mp hf
  cases hf
  obtain ⟨d', v, Aj, A0, h1, h2, h3, h4, hp⟩ := ownA_take st.own hm
  have hv : ∃ x, v = some x := by
    cases h3 with
    | u => exact absurd rfl hu
    | s => exact ⟨_, rfl⟩
    | e => exact ⟨_, rfl⟩
    | k => exact ⟨_, rfl⟩
    | a => exact ⟨_, rfl⟩
    | q => exact ⟨_, rfl⟩
    | d => exact ⟨_, rfl⟩
    | l => exact ⟨_, rfl⟩
    | r => exact ⟨_, rfl⟩
  obtain ⟨x, rfl⟩ := hv
  refine ⟨x, h2, dr st hf2 fun G2 H2 vs A2 B2 s2 st2 o2 nd2 hl => k G2 H2 (x :: vs) A2 B2 s2 st2 (OwnA.cons (A := []) (.u _ _) o2) nd2 fun kk j' hj => ?_⟩
  cases kk with
  | zero =>
    simp at hj
    subst hj
    exact ⟨x, rfl, h2⟩
  | succ kk => exact hl kk j' (by simpa using hj)

/-! ### displays -/
def eTup (r : Lf) : Ef := fun e => (r e).bind fun p => some (.tuple p.1, p.2)
def eLst (r : Lf) : Ef := fun e => (r e).bind fun p => some (.list p.1, p.2)
theorem pd_tup {k : Nat} (hr : PAL Xf K m es (List.replicate k .s) L fr m1) (hk : es.length = k := by rfl) (hz : k ≤ sizeLine := by decide) {x1} : PD Xf K m (.Tuple es x1 pos) .s (eTup fr) m1 := by
  obtain ⟨tr, pr, dr⟩ := hr.ex
  refine ⟨_, fun i => pe_tupN (pr i), fun {G H σ e A d e' Q} st hf k' => ?_⟩
  unfold eTup at hf
  obtain ⟨⟨ds1, e1⟩, hf1, hf⟩ := Option.bind_eq_some_iff.mp hf
  cases hf
  refine dr st hf1 fun G1 H1 vs A1 B1 s1 st1 o1 nd1 _ => ?_
  obtain ⟨e0, q⟩ := of_ownA o1
  subst e0
  have hl := (ownA_len o1).1
  rw [List.length_replicate] at hl
  have hz2 : vs.length ≤ sizeLine := by rw [q.1, ← hl]; exact hz
  exact ⟨hz2, ans_tup st1 q hz2 fun G2 H2 v2 A2 B2 s2 st2 o2 nd2 => k' _ _ _ _ _ (s1.seq0 s2) st2 o2 nd2⟩
theorem DAL.lst {ta : TA} {tyR : Ty} {tys : List Ty} (dr : DAL K m ta tys L fr m1) (hz : tys.length ≤ sizeLine) (mk : ∀ {G H : Hp} {a : Addr} {vs : List V} {ds : List PyData} {A : List Addr}, G a = none → H a = some (.lst vs) → vs.length ≤ sizeLine → OwnA K G H tys ds (vs.map some) A → Own K G H tyR (.list ds) (some (.ref a)) (a :: A)) : DE K m (tLst ta) tyR (eLst fr) m1 := by
  intro G H σ e A d e' Q st hf k'
  unfold eLst at hf
  obtain ⟨⟨ds1, e1⟩, hf1, hf⟩ := Option.bind_eq_some_iff.mp hf
  cases hf
  refine dr st hf1 fun G1 H1 vs A1 B1 s1 st1 o1 nd1 _ => ?_
  have hl := ownA_len o1
  have hz2 : vs.length ≤ sizeLine := by have := hl.2; rw [List.length_map] at this; omega
  refine ⟨hz2, fun p hp => ?_⟩
  obtain ⟨s2, st2, nd2, gp⟩ := new_o (o := .lst vs) (B := []) st1 hp
  have nv : ∀ a ∈ A1, a ≠ p := fun a ha z => by obtain ⟨_, o, e⟩ := ownA_at o1 a ha; rw [z, hp] at e; cases e
  have o1' : OwnA K G1 (upd H1 p (.lst vs)) tys ds1 (vs.map some) A1 := ownA_fr o1 (Same.refl _) (fun a ha => (ownA_at o1 a ha).1) fun a ha => upd_ne (nv a ha)
  have nd3 : (p :: (A1 ++ B1)).Nodup := List.nodup_cons.mpr ⟨fun h => (List.mem_append.mp h).elim (fun h => nv p h rfl) fun h => (List.nodup_cons.mp nd2).1 h, nd1⟩
  refine k' G1 (upd H1 p (.lst vs)) (.ref p) (p :: A1) B1 ?_ st2 (mk gp upd_same hz2 o1') nd3
  refine ⟨s1.sg, fun a o h ha => ?_, fun a ha => ?_, s1.gnew⟩
  · have h1 := s1.fr a o h ha
    rw [upd_ne (ne_of_none h1 hp)]; exact h1
  · rcases List.mem_cons.mp ha with rfl | ha
    · exact s1.back hp
    · exact s1.own a ha
/-- a list display, all items of one type -/
theorem pd_lst {k : Nat} (t : Ty) (hr : PAL Xf K m es (List.replicate k t) L fr m1) (hz : k ≤ sizeLine := by decide) : PD Xf K m (.List es pos) (.l t) (eLst fr) m1 := by
  obtain ⟨tr, pr, dr⟩ := hr.ex
  refine ⟨_, fun i => pe_lst (pr i), DAL.lst dr (by rw [List.length_replicate]; exact hz) fun h1 h2 h3 o => .l h1 h2 h3 ?_⟩
  have hl := (ownA_len o).1
  rw [List.length_replicate] at hl
  rw [← hl]; exact o
/-- a list display of a fixed shape -/
theorem pd_rec (hr : PAL Xf K m es tys L fr m1) (hz : tys.length ≤ sizeLine := by decide) : PD Xf K m (.List es pos) (.r tys) (eLst fr) m1 := by
  obtain ⟨tr, pr, dr⟩ := hr.ex
  exact ⟨_, fun i => pe_lst (pr i), DAL.lst dr hz fun h1 h2 h3 o => .r h1 h2 h3 o⟩
end
end DL

namespace DL
open PySem L2 PySem.Spec

/-! ### masks weakened -/
inductive LeT : Ty → Ty → Prop
  | rfl (t : Ty) : LeT t t
  | u (t : Ty) : LeT t .u
  | s (t : Ty) (h : nou t = true) : LeT t .s
  | kr (v2 : V) (t0 t1 t2 : Ty) : LeT (.r [t0, t1, .k v2 t2]) (.r [t0, t1, t2])
theorem own_of_k {K : PySem.W.Frag} {G H : Hp} {v : V} {t : Ty} {d : PyData} {x : Option V} {A : List Addr} (h : Own K G H (.k v t) d x A) : x = some v ∧ Own K G H t d x A := by
  cases h with
  | k h => exact ⟨rfl, h⟩
theorem own_of_a {K : PySem.W.Frag} {G H : Hp} {v : V} {d : PyData} {x : Option V} {A : List Addr} (h : Own K G H (.a v) d x A) : x = some v ∧ A = [] := by
  cases h with
  | a d v => exact ⟨rfl, rfl⟩
theorem ownA_unk3 {K : PySem.W.Frag} {G H : Hp} {v2 : V} {t0 t1 t2 : Ty} {ds : List PyData} {vs : List (Option V)} {A : List Addr} (h : OwnA K G H [t0, t1, .k v2 t2] ds vs A) : OwnA K G H [t0, t1, t2] ds vs A := by
  cases h with
  | cons h1 h =>
    cases h with
    | cons h2 h =>
      cases h with
      | cons h3 h =>
        cases h
        exact .cons h1 (.cons h2 (.cons (own_of_k h3).2 .nil))
theorem own_unk {K : PySem.W.Frag} {G H : Hp} {v2 : V} {t0 t1 t2 : Ty} {d : PyData} {v : Option V} {A : List Addr} (h : Own K G H (.r [t0, t1, .k v2 t2]) d v A) : Own K G H (.r [t0, t1, t2]) d v A := by
  cases h with
  | r ga ha hz o => exact .r ga ha hz (ownA_unk3 o)
inductive LeM : List Ty → List Ty → Prop
  | nil : LeM [] []
  | cons {t t' : Ty} {m m' : List Ty} : LeT t t' → LeM m m' → LeM (t :: m) (t' :: m')
theorem LeM.refl : ∀ m : List Ty, LeM m m
  | [] => .nil
  | t :: m => .cons (.rfl t) (LeM.refl m)
section
variable {K : PySem.W.Frag} {G H : Hp}
theorem ownA_le {m m' : List Ty} (l : LeM m m') : ∀ {e : En} {σ : St} {A : List Addr}, OwnA K G H m e σ A →
    ∃ Fz Dr A' : List Addr, A.Perm (Fz ++ (Dr ++ A')) ∧ ∀ G' : Hp, Same G G' → (∀ a ∈ Fz, G' a = H a) → (∀ a ∈ A', G' a = none) → OwnA K G' H m' e σ A' := by
  induction l with
  | nil => intro e σ A h; cases h; exact ⟨[], [], [], by simp, fun _ _ _ _ => .nil⟩
  | @cons t t' m m' lt lm ih =>
    intro e σ A h
    cases h with
    | @cons _ _ d ds v vs A1 A2 h1 h2 =>
      obtain ⟨Fz, Dr, A', p, k⟩ := ih h2
      cases lt with
      | rfl =>
        refine ⟨Fz, Dr, A1 ++ A', ?_, fun G' sg hf ha => .cons (own_fr h1 sg (fun a h => ha a (List.mem_append_left _ h)) fun _ _ => rfl) (k G' sg hf fun a h => ha a (List.mem_append_right _ h))⟩
        refine (List.Perm.append_left A1 p).trans (List.perm_iff_count.mpr fun z => ?_)
        simp only [List.count_append]; omega
      | kr v2 t0 t1 t2 =>
        refine ⟨Fz, Dr, A1 ++ A', ?_, fun G' sg hf ha => .cons (own_unk (own_fr h1 sg (fun a h => ha a (List.mem_append_left _ h)) fun _ _ => rfl)) (k G' sg hf fun a h => ha a (List.mem_append_right _ h))⟩
        refine (List.Perm.append_left A1 p).trans (List.perm_iff_count.mpr fun z => ?_)
        simp only [List.count_append]; omega
      | u =>
        refine ⟨Fz, A1 ++ Dr, A', ?_, fun G' sg hf ha => OwnA.cons (A := []) (.u _ _) (k G' sg hf ha)⟩
        refine (List.Perm.append_left A1 p).trans (List.perm_iff_count.mpr fun z => ?_)
        simp only [List.count_append]; omega
      | s _ hno =>
        refine ⟨A1 ++ Fz, Dr, A', ?_, fun G' sg hf ha => ?_⟩
        · rw [List.append_assoc]; exact List.Perm.append_left A1 p
        · obtain ⟨x, hx, q⟩ := own_frz h1 sg (fun a h => hf a (List.mem_append_left _ h)) hno
          subst hx
          exact OwnA.cons (A := []) (.s q) (k G' sg (fun a h => hf a (List.mem_append_right _ h)) ha)
theorem stt_le {m m' : List Ty} (l : LeM m m') {e : En} {σ : St} {A : List Addr} (st : Stt K m G H σ e A) : ∃ G' A', Step A G H A' G' H ∧ Stt K m' G' H σ e A' := by
  obtain ⟨Fz, Dr, A', p, k⟩ := ownA_le l st.own
  have nd := p.nodup_iff.mp st.nd
  have inA : ∀ a, a ∈ Fz → a ∈ A := fun a h => p.mem_iff.mpr (List.mem_append_left _ h)
  have inA' : ∀ a, a ∈ A' → a ∈ A := fun a h => p.mem_iff.mpr (List.mem_append_right _ (List.mem_append_right _ h))
  have sg : Same G (lay G H Fz) := fun b x hx => by
    by_cases q : b ∈ Fz
    · rw [(ownA_at st.own b (inA b q)).1] at hx; cases hx
    · rw [lay_out q]; exact hx
  have dis : ∀ a ∈ A', a ∉ Fz := fun a ha hb => (List.nodup_append.mp nd).2.2 a hb a (List.mem_append_right _ ha) rfl
  refine ⟨lay G H Fz, A', ⟨sg, fun a o h _ => h, fun a ha => .inl (inA' a ha), fun a h1 ⟨o, h2⟩ => ?_⟩, ⟨k _ sg (fun a ha => lay_in ha) fun a ha => ?_, (List.nodup_append.mp (List.nodup_append.mp nd).2.1).2.1, fun b x hx => ?_⟩⟩
  · by_cases q : a ∈ Fz
    · exact .inl (inA a q)
    · rw [lay_out q, h1] at h2; cases h2
  · rw [lay_out (dis a ha)]; exact (ownA_at st.own a (inA' a ha)).1
  · by_cases q : b ∈ Fz
    · rw [lay_in q] at hx; exact hx
    · rw [lay_out q] at hx; exact st.sub b x hx
end

/-! ### a def's promise over data; the call -/
abbrev DFn := List PyData → Option (PyData × List PyData)
def spD (K : PySem.W.Frag) (ptys : List Ty) (rty : Ty) (Fn : DFn) : Sp := fun vs H Q _ =>
  ∃ (ds : List PyData) (d : PyData) (fs : List PyData) (G : Hp) (A : List Addr), Fn ds = some (d, fs) ∧ OwnA K G H ptys ds (vs.map some) A ∧ A.Nodup ∧ Same G H ∧
    ∀ (G' H' : Hp) (v : V) (Av A' : List Addr), Step A G H (Av ++ A') G' H' → OwnA K G' H' ptys fs (vs.map some) A' → Own K G' H' rty d (some v) Av → (Av ++ A').Nodup → Same G' H' → Q v H'
/-- the promise kept wherever no text of an object is under way -/
structure FnG (P : Program) (w : World) (K : PySem.W.Frag) (mg : Str → Option Value) (base : Heap) (k : Nat) (f : Addr) (fd : FuncData) (ps : List Str) (sp : Sp) : Prop where
  len : ∀ vs H Q E, sp vs H Q E → vs.length = ps.length
  run : ∀ (A : Around) (outer : List Env) (s : Shared) (H : Hp) (args : Args) (us : List Value) (vs : List V) (Q : VK) (E : XK), Room k A → A.guards = some [] → Env0 P w K mg base A outer s H → BindsTo s fd args (ps.zip us) → Vals vs us → sp vs H Q E →
    codeAny (model P w) A (.call (.ref f) args) (CR CX0 outer P w H s Q E) s
/-- a def of the module, to be called by its name -/
structure CalG (P : Program) (w : World) (K : PySem.W.Frag) (mg : Str → Option Value) (base : Heap) (k : Nat) (x : Str) (ptys : List Ty) (rty : Ty) (Fn : DFn) : Prop where
  ex : ∃ (f : Addr) (fd : FuncData) (ps : List Str), FnG P w K mg base k f fd ps (spD K ptys rty Fn) ∧ mg x = some (.ref f) ∧ PySem.W.keepIn K (.ref f) = true ∧ Binds K fd ps []
class FamG {ι : Type} (Xf : ι → Cx) : Prop where
  gd : ∀ i, (Xf i).A.guards = some []
  calm : ∀ i, (Xf i).calm = true
  hd : ∀ i, (Xf i).A.handled = none
theorem rmOf {ι : Type} {Xf : ι → Cx} {P : Program} {w : World} {K : PySem.W.Frag} {mg : Str → Option Value} {base : Heap} {n : Nat} (F : Fam Xf P w K mg base n) (FG : FamG Xf) (i : ι) : Room n (Xf i).A := ⟨FG.hd i, (F.room i).dp, (F.room i).un⟩

theorem fnG_of {P : Program} {w : World} {K : PySem.W.Frag} {mg : Str → Option Value} {base : Heap} {x qual : Str} {st : Stmt} {f : Addr} {fd : FuncData} {N ps : List Str} {k : Nat} {sp : Sp} (F : L2.Fun K x qual st f fd) (S : FnScope N ps (defScope st)) (len : ∀ vs H Q E, sp vs H Q E → vs.length = ps.length)
    (hbody : ∀ (cdv : Value) (A : Around) (outer : List Env) (s : Shared) (H : Hp) (vs : List V) (Q : VK) (E : XK), Room k (A.deeper (PyProof.Rows.envOfC qual (defScope st) s.heap.objs.size f cdv)) → (A.deeper (PyProof.Rows.envOfC qual (defScope st) s.heap.objs.size f cdv)).guards = some [] → sp vs H Q E →
      ∃ t, PSs (cxOf CX0 P w K mg base N qual (defScope st) f cdv A outer s H E).nox (defBody st) t ∧ t { nx := fun _ H' => Q .non H', rt := Q } (start N vs) H) : FnG P w K mg base (k + 1) f fd ps sp := by
  obtain ⟨oc, od, kV, doc, pm, an, cdv, ct, osl, rfl, lk, hcd⟩ := F.ex
  refine ⟨len, fun A outer s H args us vs Q E room gd e0 bind rel wish => ?_⟩
  have KX : K.In s.heap := e0.mod.kin.keeps fun b o e => (e0.bs b o e).1
  obtain ⟨t, bt, bq⟩ := hbody cdv A outer s H vs Q E (room.deeper _) gd wish
  have kinds : ∀ y ∈ ps.zip us, (defScope st).names.lookup y.1 = some .local ∨ ((defScope st).names.lookup y.1 = some .cell ∧ ((cellsFrom (s.heap.objs.size + 1) (defScope st).names []).lookup y.1).isSome = true) := by
    rintro ⟨nm, val⟩ hy
    have hp := S.par nm (List.of_mem_zip hy).1
    exact hp.imp id fun c => ⟨c, PySem.W.cellsFrom_some _ _ _ (.inl c)⟩
  refine codeAny_call_function room.depth (KX _ _ lk) rfl S.co S.gen rfl (PySem.W.codeRec_of KX hcd) (bind _ _ _ _ ?_)
  refine wpAny_newFunctionEnv_cells S.kind kinds fun env he s1 ic => ?_
  subst he
  have lim := e0.mod.nolimit.keeps fun b o e => (e0.bs b o e).1
  refine ⟨Heap.NoLimit.keeps lim ic.toInCall.keep, codeAny_func ?_⟩
  have I0 := inv_start (CX := CX0) (E := E) S room.hd e0 (len _ _ _ _ wish) rel ic
  refine wpAny_mono (bt.nox.run [] s1 _ H _ I0 bq) ?_ fun e s' z => z
  intro fl s' z
  cases fl with
  | ret u => obtain ⟨v, σ', H', J, rv, q⟩ := z; exact ⟨v, H', J.os, J.bare, J.base, J.hok, rv, q⟩
  | next => obtain ⟨σ', H', J, q⟩ := z; exact ⟨V.non, H', J.os, J.bare, J.base, J.hok, rfl, q⟩
  | brk => obtain ⟨_, _, _, q⟩ := z; exact q.elim
  | cont => obtain ⟨_, _, _, q⟩ := z; exact q.elim

def eCall (Fn : DFn) (r : Lf) : Ef := fun e => (r e).bind fun p => (Fn p.1).bind fun q => some (q.1, p.2)
/-- one argument, the k-th, is lent from slot j -/
def eCallL (Fn : DFn) (k j : Nat) (r : Lf) : Ef := fun e => (r e).bind fun p => (Fn (p.1.set k (p.2.getD j .none))).bind fun q => some (q.1, p.2.set j (q.2.getD k .none))

section
variable {ι : Type} {Xf : ι → Cx} {P : Program} {w : World} {K : PySem.W.Frag} {mg : Str → Option Value} {base : Heap} {n : Nat} [F : Fam Xf P w K mg base n] [FG : FamG Xf]
variable {m m1 m2 m3 : List Ty} {pos p p2 : Pos} {a b c : Expr} {es : List Expr} {f g h : Ef} {fr : Lf} {ty : Ty} {tys : List Ty} {L : List (Option Nat)}

theorem run_fnG {X : Cx} {k : Nat} {fa : Addr} {fd : FuncData} {ps : List Str} {sp : Sp} {pins : List (Addr × Obj)} {σ : St} {H : Hp} {s : Shared} {Q : VK} {E : XK} {us : List Value} {vs : List V} (Fn : FnG X.prog X.w X.K X.mg X.base k fa fd ps sp) (hr : Room k X.A) (hg : X.A.guards = some []) (hb : Binds X.K fd ps [])
    (I : L2.Inv X pins σ H s) (r : Vals vs us) (h : sp vs H Q E) : wpAny (model X.prog X.w) X.A (call (.ref fa) us) (EP X pins σ Q) X.xe s := by
  have hl : (us ++ []).length = ps.length := by rw [List.append_nil, ← r.length]; exact Fn.len _ _ _ _ h
  have hb' := hb s us I.kIn hl
  rw [List.append_nil] at hb'
  refine wpAny_call (codeAny_mono (Fn.run X.A X.stack s H ⟨us, []⟩ us vs Q E hr hg I.env0 hb' r h) ?_)
  intro z s' hq
  match z, hq with
  | .ok (.ret u), hq => exact I.after hq
  | .error e, hq => exact False.elim hq
  | .ok .next, hq => exact False.elim hq
  | .ok .brk, hq => exact False.elim hq
  | .ok .cont, hq => exact False.elim hq

/-- f(a, ..) -/
def tCallG (sp : Sp) (t : TA) : TE := fun σ H Q => t σ H fun vs H1 => sp vs H1 Q fun _ _ _ => False
include F FG in
theorem pe_callG {k : Nat} {x : Str} {rty : Ty} {Fn : DFn} (c : CalG P w K mg base k x tys rty Fn) (hk : k ≤ n) (i : ι) {t : TA} (hg : Gl (Xf i) x) (ha : PA (Xf i) (a :: es) t)
    (hdb : (x == ("__debug__" : Str)) = false := by decide) (he : starEach (a :: es) (Xf i).env = (false, eval a (Xf i).env) :: starEach es (Xf i).env := by rfl) (hpl : (backTo pos (starEach es (Xf i).env)).any (·.1) = false := by rfl) :
    PE (Xf i) (.Call (.Name x p) (a :: es) [] pos) (tCallG (spD K tys rty Fn) t) := by
  obtain ⟨fa, fd, ps, FN, hm, kp, b⟩ := c.ex
  have e1 := F.prog i
  have e2 := F.w_ i
  have e3 := F.kk i
  have e4 := F.mg_ i
  have e5 := F.base_ i
  refine ⟨fun pins s σ H Q I h => ?_⟩
  refine wpAny_Call_Name_kw (ld_glob I hg (by rw [e4]; exact hm) ?_ hdb)
  refine PySem.W.callWith_K (h₀ := (Xf i).base) I.ok.mod.kin (by rw [e3]; exact kp) (thn (ha.run pos pins s σ H _ I h) fun us s1 ⟨vs, H1, I1, r1, q1⟩ => ⟨I1.kIn, ?_⟩) he hpl
  subst e1 e2 e3 e4 e5
  exact run_fnG FN ((rmOf F FG i).mono hk) (FG.gd i) b I1 r1 q1
include F FG in
theorem pd_call {k : Nat} {x : Str} {rty : Ty} {Fn : DFn} (c : CalG P w K mg base k x tys rty Fn) (ha : PAL Xf K m (a :: es) tys L fr m1) (hk : k ≤ n := by decide) (hg : ∀ i, Gl (Xf i) x := by intro _; rfl)
    (hdb : (x == ("__debug__" : Str)) = false := by decide) (he : ∀ i, starEach (a :: es) (Xf i).env = (false, eval a (Xf i).env) :: starEach es (Xf i).env := by intro _; rfl) (hpl : ∀ i, (backTo pos (starEach es (Xf i).env)).any (·.1) = false := by intro _; rfl) :
    PD Xf K m (.Call (.Name x p) (a :: es) [] pos) rty (eCall Fn fr) m1 := by
  obtain ⟨ta, pa, da⟩ := ha.ex
  refine ⟨_, fun i => pe_callG c hk i (hg i) (pa i) hdb (he i) (hpl i), fun {G H σ e A d e' Q} st hf k' => ?_⟩
  unfold eCall at hf
  obtain ⟨⟨ds, e1⟩, hf1, hf⟩ := Option.bind_eq_some_iff.mp hf
  obtain ⟨⟨d1, fs⟩, hf2, hf⟩ := Option.bind_eq_some_iff.mp hf
  cases hf
  refine da st hf1 fun G1 H1 vs A1 B1 s1 st1 o1 nd1 _ => ?_
  have nd := List.nodup_append.mp nd1
  refine ⟨ds, _, fs, G1, A1, hf2, o1, nd.1, st1.sub, fun G2 H2 v Av A2 s2 o2 ov nd2 sub2 => ?_⟩
  -- the state's own objects are kept aside
  have nd1' : (B1 ++ A1).Nodup := List.nodup_append.mpr ⟨nd.2.1, nd.1, fun a ha b hb z => nd.2.2 b hb a ha z.symm⟩
  have s1' : Step A G H (B1 ++ A1) G1 H1 := ⟨s1.sg, s1.fr, fun a ha => s1.own a ((List.mem_append.mp ha).elim (fun z => List.mem_append_right _ z) fun z => List.mem_append_left _ z), s1.gnew⟩
  obtain ⟨s3, nd3, hg', hh'⟩ := s1'.seq (ownA_at st1.own) nd1' s2 nd2
  have n3 := List.nodup_append.mp nd3
  have n4 := List.nodup_append.mp n3.2.1
  have st2 : Stt K m1 G2 H2 σ e1 B1 := ⟨ownA_fr st1.own s2.sg hg' hh', st1.nd, sub2⟩
  refine k' G2 H2 v Av B1 (s3.less fun a ha => ?_) st2 ov ?_
  · rcases List.mem_append.mp ha with z | z
    · exact List.mem_append_right _ (List.mem_append_left _ z)
    · exact List.mem_append_left _ z
  · exact List.nodup_append.mpr ⟨n4.1, n3.1, fun a ha b hb z => n3.2.2 b hb a (List.mem_append_left _ ha) z.symm⟩
include F FG in
theorem pd_callL {k kk j : Nat} {x : Str} {rty t : Ty} {Fn : DFn} (c : CalG P w K mg base k x tys rty Fn) {tys' : List Ty} (ha : PAL Xf K m (a :: es) tys' L fr m1) (hm : m1[j]? = some t := by rfl) (hL : L[kk]? = some (some j) := by rfl) (hu : tys'[kk]? = some .u := by rfl) (ht : tys'.set kk t = tys := by rfl)
    (hk : k ≤ n := by decide) (hg : ∀ i, Gl (Xf i) x := by intro _; rfl)
    (hdb : (x == ("__debug__" : Str)) = false := by decide) (he : ∀ i, starEach (a :: es) (Xf i).env = (false, eval a (Xf i).env) :: starEach es (Xf i).env := by intro _; rfl) (hpl : ∀ i, (backTo pos (starEach es (Xf i).env)).any (·.1) = false := by intro _; rfl) :
    PD Xf K m (.Call (.Name x p) (a :: es) [] pos) rty (eCallL Fn kk j fr) m1 := by
  obtain ⟨ta, pa, da⟩ := ha.ex
  refine ⟨_, fun i => pe_callG c hk i (hg i) (pa i) hdb (he i) (hpl i), fun {G H σ e A d e' Q} st hf k' => ?_⟩
  unfold eCallL at hf
  obtain ⟨⟨ds, e1⟩, hf1, hf⟩ := Option.bind_eq_some_iff.mp hf
  obtain ⟨⟨d1, fs⟩, hf2, hf⟩ := Option.bind_eq_some_iff.mp hf
  cases hf
  refine da st hf1 fun G1 H1 vs A1 B1 s1 st1 o1 nd1 lk => ?_
  obtain ⟨dj, vj, Aj, B0, h1, h2, h3, h4, hp⟩ := ownA_take st1.own hm
  obtain ⟨v0, hv0, hs0⟩ := lk kk j hL
  have hvj : vj = some v0 := by rw [hs0] at h2; exact (Option.some.inj h2).symm
  subst hvj
  obtain ⟨A2, o2, p2⟩ := ownA_put o1 hu h3
  rw [ht] at o2
  have hvs : (vs.map some).set kk (some v0) = vs.map some := set_id (by rw [List.getElem?_map, hv0]; rfl)
  rw [hvs] at o2
  have ed : e1.getD j .none = dj := by rw [List.getD_eq_getElem?_getD, h1]; rfl
  rw [ed] at hf2
  have nd := List.nodup_append.mp nd1
  have ndB := List.nodup_append.mp (hp.nodup_iff.mp nd.2.1)
  -- what the callee holds; what is kept aside
  have pall : (A1 ++ B1).Perm (B0 ++ A2) := by
    refine (List.Perm.append_left A1 hp).trans ?_
    refine List.Perm.trans ?_ (List.Perm.append_left B0 p2.symm)
    rw [← List.append_assoc]
    refine List.perm_append_comm.trans (List.Perm.append_left B0 List.perm_append_comm)
  have nd2 : (B0 ++ A2).Nodup := pall.nodup_iff.mp nd1
  have n2 := List.nodup_append.mp nd2
  refine ⟨ds.set kk dj, _, fs, G1, A2, hf2, o2, n2.2.1, st1.sub, fun G2 H2 v Av A3 s2 o3 ov nd3 sub2 => ?_⟩
  have s1' : Step A G H (B0 ++ A2) G1 H1 := ⟨s1.sg, s1.fr, fun a ha => s1.own a (pall.mem_iff.mpr ha), s1.gnew⟩
  obtain ⟨s3, nd4, hg', hh'⟩ := s1'.seq (ownA_at h4) nd2 s2 nd3
  have n4 := List.nodup_append.mp nd4
  have n5 := List.nodup_append.mp n4.2.1
  have o0 := ownA_fr h4 s2.sg hg' hh'
  have hkk : tys[kk]? = some t := by
    rw [← ht]
    have := (List.getElem?_eq_some_iff.mp hu).1
    simp [this]
  obtain ⟨df, vf, Af, A4, g1, g2, g3, g4, gp⟩ := ownA_take o3 hkk
  have hvf : vf = some v0 := by rw [List.getElem?_map, hv0] at g2; exact (Option.some.inj g2).symm
  subst hvf
  have hj : (m1.set j .u)[j]? = some .u := by
    have := (List.getElem?_eq_some_iff.mp hm).1
    simp [this]
  obtain ⟨B2, o4, p4⟩ := ownA_put o0 hj g3
  rw [List.set_set, set_id hm, set_id h2] at o4
  have ef : fs.getD kk .none = df := by rw [List.getD_eq_getElem?_getD, g1]; rfl
  rw [ef] at k'
  have gn := List.nodup_append.mp (gp.nodup_iff.mp n5.2.1)
  have inA3 : ∀ a, a ∈ Af → a ∈ A3 := fun a h => gp.mem_iff.mpr (List.mem_append_left _ h)
  have ndB2 : B2.Nodup := p4.nodup_iff.mpr (List.nodup_append.mpr ⟨gn.1, n4.1, fun a ha b hb z => n4.2.2 b hb a (List.mem_append_right _ (inA3 a ha)) z.symm⟩)
  have inB2 : ∀ a, a ∈ B2 → a ∈ Af ∨ a ∈ B0 := fun a h => List.mem_append.mp (p4.mem_iff.mp h)
  have st2 : Stt K m1 G2 H2 σ (e1.set j df) B2 := ⟨o4, ndB2, sub2⟩
  refine k' G2 H2 v Av B2 (s3.less fun a ha => ?_) st2 ov ?_
  · rcases List.mem_append.mp ha with z | z
    · exact List.mem_append_right _ (List.mem_append_left _ z)
    · rcases inB2 a z with z | z
      · exact List.mem_append_right _ (List.mem_append_right _ (inA3 a z))
      · exact List.mem_append_left _ z
  · refine List.nodup_append.mpr ⟨n5.1, ndB2, fun a ha b hb z => ?_⟩
    subst z
    rcases inB2 a hb with z | z
    · exact n5.2.2 a ha a (inA3 a z) rfl
    · exact n4.2.2 a z a (List.mem_append_left _ ha) rfl
end
end DL

namespace DL
open PySem L2 PySem.Spec

theorem bt_len : bootBuiltins "len" = some (.builtin "len") := by decide +kernel
theorem bt_tuple : bootBuiltins "tuple" = some (.type "tuple") := by decide +kernel
theorem bt_list : bootBuiltins "list" = some (.type "list") := by decide +kernel
theorem bt_int : bootBuiltins "int" = some (.type "int") := by decide +kernel
theorem bt_str : bootBuiltins "str" = some (.type "str") := by decide +kernel
theorem bt_bool : bootBuiltins "bool" = some (.type "bool") := by decide +kernel
theorem bt_sorted : bootBuiltins "sorted" = some (.builtin "sorted") := by decide +kernel
theorem bt_max : bootBuiltins "max" = some (.builtin "max") := by decide +kernel
theorem bt_min : bootBuiltins "min" = some (.builtin "min") := by decide +kernel
theorem bt_sum : bootBuiltins "sum" = some (.builtin "sum") := by decide +kernel
theorem bt_all : bootBuiltins "all" = some (.builtin "all") := by decide +kernel
theorem bt_any : bootBuiltins "any" = some (.builtin "any") := by decide +kernel
theorem bt_abs : bootBuiltins "abs" = some (.builtin "abs") := by decide +kernel
theorem bt_repr : bootBuiltins "repr" = some (.builtin "repr") := by decide +kernel
theorem bt_isinstance : bootBuiltins "isinstance" = some (.builtin "isinstance") := by decide +kernel

/-! ### what built-ins do to data -/
def gLen : PyData → Option PyData
  | .list xs => some (.int xs.length)
  | .tuple xs => some (.int xs.length)
  | .str z => some (.int z.length)
  | _ => none
def gTuple : PyData → Option PyData
  | .list xs => some (.tuple xs)
  | .tuple xs => some (.tuple xs)
  | _ => none
def gList : PyData → Option PyData
  | .list xs => some (.list xs)
  | .tuple xs => some (.list xs)
  | _ => none
def likeOk (xs : List PyData) : Bool := PyData.plainAll xs && xs.all (fun x => xs.all fun y => PySem.W.alike x y) && xs.all (fun x => match x with | .none => false | _ => true) && decide (PyData.depthAll xs ≤ 60)
def gMax : PyData → Option PyData
  | .list (x :: xs) => if likeOk (x :: xs) = true then some (PySem.W.maxD x xs) else none
  | .tuple (x :: xs) => if likeOk (x :: xs) = true then some (PySem.W.maxD x xs) else none
  | _ => none
def gMin : PyData → Option PyData
  | .list (x :: xs) => if likeOk (x :: xs) = true then some (PySem.W.minD x xs) else none
  | .tuple (x :: xs) => if likeOk (x :: xs) = true then some (PySem.W.minD x xs) else none
  | _ => none
def gMax2 : PyData → PyData → Option PyData
  | .int i, .int j => some (.int (if j > i then j else i))
  | _, _ => none
def gMin2 : PyData → PyData → Option PyData
  | .int i, .int j => some (.int (if j < i then j else i))
  | _, _ => none
def intsOf : List PyData → Option (List Int)
  | [] => some []
  | .int i :: r => (intsOf r).map (i :: ·)
  | _ :: _ => none
def gSum : PyData → Option PyData
  | .list xs => (intsOf xs).map fun ns => .int ns.sum
  | .tuple xs => (intsOf xs).map fun ns => .int ns.sum
  | _ => none
def gAll : PyData → Option PyData
  | .list xs => if PyData.plainAll xs = true then some (.bool (xs.all PyData.truthy)) else none
  | .tuple xs => if PyData.plainAll xs = true then some (.bool (xs.all PyData.truthy)) else none
  | _ => none
def gAny : PyData → Option PyData
  | .list xs => if PyData.plainAll xs = true then some (.bool (xs.any PyData.truthy)) else none
  | .tuple xs => if PyData.plainAll xs = true then some (.bool (xs.any PyData.truthy)) else none
  | _ => none
def gAbs : PyData → Option PyData
  | .int i => some (.int (if i < 0 then -i else i))
  | _ => none
def gInt : PyData → Option PyData
  | .int i => some (.int i)
  | .bool b => some (.int (if b then 1 else 0))
  | _ => none
def sortOk (xs : List PyData) : Bool := xs.all (fun x => xs.all fun y => PySem.W.alike x y) && (xs.all (fun x => match x with | .tuple (_ :: _) => true | _ => false) || xs.all (fun x => match x with | .none => false | .tuple _ => false | _ => true)) && decide (PyData.depthAll xs ≤ 60)
def gSorted : PyData → Option PyData
  | .list xs => if sortOk xs = true then some (.list (xs.mergeSort (PySem.W.dataLe false id))) else none
  | .tuple xs => if sortOk xs = true then some (.list (xs.mergeSort (PySem.W.dataLe false id))) else none
  | _ => none
def gRepr (d : PyData) : Option PyData := if d.showable = true ∧ d.depth ≤ 58 ∧ d.shown.length ≤ sizeLine then some (.str d.shown) else none

section
variable {ι : Type} {Xf : ι → Cx} {P : Program} {w : World} {K : PySem.W.Frag} {mg : Str → Option Value} {base : Heap} {n : Nat} [F : Fam Xf P w K mg base n]
theorem depthAll_mem : ∀ {xs : List PyData} {x : PyData}, x ∈ xs → x.depth ≤ PyData.depthAll xs
  | y :: ys, x, h => by
    unfold PyData.depthAll
    rcases List.mem_cons.mp h with rfl | h
    · exact Nat.le_max_left _ _
    · exact Nat.le_trans (depthAll_mem h) (Nat.le_max_right _ _)
theorem plain_mem : ∀ {xs : List PyData} {x : PyData}, PyData.plainAll xs = true → x ∈ xs → x.plain = true
  | y :: ys, x, hp, h => by
    unfold PyData.plainAll at hp
    simp only [Bool.and_eq_true] at hp
    rcases List.mem_cons.mp h with rfl | h
    · exact hp.1
    · exact plain_mem hp.2 h
theorem like_ok {xs : List PyData} (h : likeOk xs = true) : PySem.W.AlikeAll xs ∧ PyData.depthAll xs ≤ 60 ∧ PyData.plainAll xs = true := by
  unfold likeOk at h
  simp only [Bool.and_eq_true, List.all_eq_true, decide_eq_true_eq] at h
  refine ⟨⟨fun x hx y hy => h.1.1.2 x hx y hy, fun x hx e => ?_⟩, h.2, h.1.1.1⟩
  have := h.1.2 x hx
  subst e
  simp at this
theorem reads_same {h : Heap} {v : Value} {d d' : PyData} {as as' : List Addr} (hp : d.plain = true) (r : Reads h v d as) (r' : Reads h v d' as') : d = d' := PySem.SeqAt.plain_unique d d' v as as' hp r r'
theorem dqA_at {X : Cx} {pins : List (Addr × Obj)} {σ : St} {H : Hp} {s : Shared} (I : L2.Inv X pins σ H s) {xs : List V} {ds : List PyData} (q : DqA X.K H xs ds) {its : List Value} (rv : Vals xs its) {i : Nat} {u : Value} (hu : its[i]? = some u) :
    ∃ v d as, xs[i]? = some v ∧ ds[i]? = some d ∧ RelV v u ∧ Dq X.K H v d ∧ Reads s.heap u d as := by
  have hi : i < its.length := (List.getElem?_eq_some_iff.mp hu).1
  have hx : i < xs.length := by rw [rv.length]; exact hi
  have hd : i < ds.length := by rw [← q.1]; exact hx
  have h1 : xs[i]? = some xs[i] := List.getElem?_eq_getElem hx
  have h2 : ds[i]? = some ds[i] := List.getElem?_eq_getElem hd
  obtain ⟨u', hu', r⟩ := rv.get h1
  rw [hu] at hu'
  cases hu'
  have qv := q.2 i _ _ h1 h2
  obtain ⟨as, rd⟩ := qv.reads I r
  exact ⟨_, _, as, h1, h2, r, qv, rd⟩
include F
theorem pd_b1 {m m1 : List Ty} {pos p : Pos} {a : Expr} {f : Ef} {x : Str} {id : String} {ty : Ty} {gg : PyData → Option PyData} (hc : Cl1 Xf K (.builtin id) ty gg) (hm : mg x = none) (hv : bootBuiltins x = some (.builtin id)) (ha : PD Xf K m a .s f m1) (hg : ∀ i, Gl (Xf i) x := by intro _; rfl)
    (hn : x ≠ "__name__" := by decide) (hdb : (x == ("__debug__" : Str)) = false := by decide) (he : ∀ i, starEach [a] (Xf i).env = (false, eval a (Xf i).env) :: starEach [] (Xf i).env := by intro _; rfl) (hpl : ∀ i, (backTo pos (starEach [] (Xf i).env)).any (·.1) = false := by intro _; rfl) :
    PD Xf K m (.Call (.Name x p) [a] [] pos) ty (e1 gg f) m1 := by
  obtain ⟨r, hr, dr⟩ := hc.ex
  obtain ⟨ta, pa, da⟩ := ha.ex
  exact ⟨_, fun i => pe_callB (hr i) (hg i) (by rw [F.mg_ i]; exact hm) hv (pa_cons (pa i) pa_nil (he i)) hn hdb (he i) (hpl i), DE.un da dr⟩
theorem pd_t1 {m m1 : List Ty} {pos p : Pos} {a : Expr} {f : Ef} {x : Str} {T : String} {ty : Ty} {gg : PyData → Option PyData} (hc : Cl1 Xf K (.type T) ty gg) (hm : mg x = none) (hv : bootBuiltins x = some (.type T)) (ha : PD Xf K m a .s f m1) (hg : ∀ i, Gl (Xf i) x := by intro _; rfl)
    (hn : x ≠ "__name__" := by decide) (hdb : (x == ("__debug__" : Str)) = false := by decide) (he : ∀ i, starEach [a] (Xf i).env = (false, eval a (Xf i).env) :: starEach [] (Xf i).env := by intro _; rfl) (hpl : ∀ i, (backTo pos (starEach [] (Xf i).env)).any (·.1) = false := by intro _; rfl) :
    PD Xf K m (.Call (.Name x p) [a] [] pos) ty (e1 gg f) m1 := by
  obtain ⟨r, hr, dr⟩ := hc.ex
  obtain ⟨ta, pa, da⟩ := ha.ex
  exact ⟨_, fun i => pe_callTy (hr i) (hg i) (by rw [F.mg_ i]; exact hm) hv (pa_cons (pa i) pa_nil (he i)) hn hdb (he i) (hpl i), DE.un da dr⟩
theorem pd_b2 {m m1 m2 : List Ty} {pos p : Pos} {a b : Expr} {f g : Ef} {x : Str} {id : String} {ty : Ty} {gg : PyData → PyData → Option PyData} (hc : Cl2 Xf K (.builtin id) ty gg) (hm : mg x = none) (hv : bootBuiltins x = some (.builtin id)) (ha : PD Xf K m a .s f m1) (hb : PD Xf K m1 b .s g m2) (hg : ∀ i, Gl (Xf i) x := by intro _; rfl)
    (hn : x ≠ "__name__" := by decide) (hdb : (x == ("__debug__" : Str)) = false := by decide) (he : ∀ i, starEach [a, b] (Xf i).env = (false, eval a (Xf i).env) :: starEach [b] (Xf i).env := by intro _; rfl) (he2 : ∀ i, starEach [b] (Xf i).env = (false, eval b (Xf i).env) :: starEach [] (Xf i).env := by intro _; rfl) (hpl : ∀ i, (backTo pos (starEach [b] (Xf i).env)).any (·.1) = false := by intro _; rfl) :
    PD Xf K m (.Call (.Name x p) [a, b] [] pos) ty (e2 gg f g) m2 := by
  obtain ⟨r, hr, dr⟩ := hc.ex
  obtain ⟨ta, pa, da⟩ := ha.ex
  obtain ⟨tb, pb, db⟩ := hb.ex
  exact ⟨_, fun i => pe_callB (hr i) (hg i) (by rw [F.mg_ i]; exact hm) hv (pa_cons (pa i) (pa_cons (pb i) pa_nil (he2 i)) (he i)) hn hdb (he i) (hpl i), DE.bin da db dr⟩
theorem kkC {r : PySem.W.Frag → List V → Hp → VK → Prop} {f : Value} (h : ∀ X : Cx, CallR X f (r X.K)) (i : ι) : CallR (Xf i) f (r K) := by
  have := h (Xf i)
  rw [F.kk i] at this
  exact this
theorem kkCc [FG : FamG Xf] {r : PySem.W.Frag → List V → Hp → VK → Prop} {f : Value} (h : ∀ X : Cx, X.calm = true → CallR X f (r X.K)) (i : ι) : CallR (Xf i) f (r K) := by
  have := h (Xf i) (FG.calm i)
  rw [F.kk i] at this
  exact this

theorem clLen : Cl1 Xf K (.builtin "len") .s gLen := by
  refine ⟨_, fun i => CallR.or (kkC (r := fun K xs H Q => ∃ p ys, xs = [.ref p] ∧ (SqL K H p ys ∨ SqT K H p ys) ∧ Q (.int ys.length) H) (fun X => call_len_seq) i) call_len_str, fun {m G H σ e A x dx d Q} st hx ee k => ?_⟩
  cases dx with
  | list ds =>
    cases ee
    obtain ⟨a, xs, rfl, r1, z1, q1⟩ := dq_lst hx
    exact .inl ⟨a, xs, rfl, .inl (.inl (same_rd st.sub r1)), by rw [q1.1]; exact ans_s st (.int _) k⟩
  | tuple ds =>
    cases ee
    obtain ⟨a, xs, rfl, r1, z1, q1⟩ := dq_tup hx
    exact .inl ⟨a, xs, rfl, .inr (same_seqT st.sub r1), by rw [q1.1]; exact ans_s st (.int _) k⟩
  | str z =>
    cases ee
    obtain ⟨rfl, z1⟩ := dq_str hx
    exact .inr ⟨_, rfl, z1, ans_s st (.int _) k⟩
  | _ => cases ee
theorem clTuple : Cl1 Xf K (.type "tuple") .s gTuple := by
  refine ⟨_, fun i => kkC (r := fun K xs H Q => ∃ p ys, xs = [.ref p] ∧ ((SqL K H p ys ∧ NewT H ys Q) ∨ (SqT K H p ys ∧ Q (.ref p) H))) (fun X => call_tuple_ofN) i, fun {m G H σ e A x dx d Q} st hx ee k => ?_⟩
  cases dx with
  | list ds =>
    cases ee
    obtain ⟨a, xs, rfl, r1, z1, q1⟩ := dq_lst hx
    exact ⟨a, xs, rfl, .inl ⟨.inl (same_rd st.sub r1), ans_tup st q1 z1 k⟩⟩
  | tuple ds =>
    cases ee
    obtain ⟨a, xs, rfl, r1, z1, q1⟩ := dq_tup hx
    exact ⟨a, xs, rfl, .inr ⟨same_seqT st.sub r1, ans_s st hx k⟩⟩
  | _ => cases ee
theorem clList : Cl1 Xf K (.type "list") (.l .s) gList := by
  refine ⟨_, fun i => kkC (r := fun K xs H Q => ∃ p ys, xs = [.ref p] ∧ (SqL K H p ys ∨ SqT K H p ys) ∧ ∀ l, H l = none → Q (.ref l) (upd H l (.lst ys))) (fun X => call_list_of) i, fun {m G H σ e A x dx d Q} st hx ee k => ?_⟩
  cases dx with
  | list ds =>
    cases ee
    obtain ⟨a, xs, rfl, r1, z1, q1⟩ := dq_lst hx
    exact ⟨a, xs, rfl, .inl (.inl (same_rd st.sub r1)), ans_lst st q1 z1 k⟩
  | tuple ds =>
    cases ee
    obtain ⟨a, xs, rfl, r1, z1, q1⟩ := dq_tup hx
    exact ⟨a, xs, rfl, .inr (same_seqT st.sub r1), ans_lst st q1 z1 k⟩
  | _ => cases ee
/-- one of the items comes back -/
def rItem (K : PySem.W.Frag) (gg : List PyData → Option PyData) : List V → Hp → VK → Prop := fun vs H Q => ∃ a xs ds d, vs = [.ref a] ∧ (SqL K H a xs ∨ SqT K H a xs) ∧ DqA K H xs ds ∧ gg ds = some d ∧ ∀ (i : Nat) v, xs[i]? = some v → ds[i]? = some d → Q v H
def gMaxL : List PyData → Option PyData
  | x :: xs => if likeOk (x :: xs) = true then some (PySem.W.maxD x xs) else none
  | [] => none
def gMinL : List PyData → Option PyData
  | x :: xs => if likeOk (x :: xs) = true then some (PySem.W.minD x xs) else none
  | [] => none
omit F in
theorem d1Item {gg : List PyData → Option PyData} {g' : PyData → Option PyData} (h : ∀ x d, g' x = some d → ∃ ds, (x = .list ds ∨ x = .tuple ds) ∧ gg ds = some d) : D1 K (fun x => rItem K gg [x]) .s g' := fun {m G H σ e A x dx d Q} st hx ee k => by
  obtain ⟨ds, hds, e1⟩ := h _ _ ee
  rcases hds with rfl | rfl
  · obtain ⟨a, xs, rfl, r1, z1, q1⟩ := dq_lst hx
    exact ⟨a, xs, ds, d, rfl, .inl (.inl (same_rd st.sub r1)), q1.mono st.sub, e1, fun i v h1 h2 => ans_s st (q1.2 i v d h1 h2) k⟩
  · obtain ⟨a, xs, rfl, r1, z1, q1⟩ := dq_tup hx
    exact ⟨a, xs, ds, d, rfl, .inr (same_seqT st.sub r1), q1.mono st.sub, e1, fun i v h1 h2 => ans_s st (q1.2 i v d h1 h2) k⟩
theorem item_back {i : ι} {pins : List (Addr × Obj)} {σ : St} {H : Hp} {s : Shared} {Q : VK} (I : L2.Inv (Xf i) pins σ H s) {xs : List V} {ds : List PyData} (q : DqA (Xf i).K H xs ds) (hpl : PyData.plainAll ds = true) {its : List Value} (rv : Vals xs its) {d : PyData}
    (hq : ∀ (i : Nat) v, xs[i]? = some v → ds[i]? = some d → Q v H) {j : Nat} {v : Value} {h' : Heap} {tk : Nat} {bs : List Addr} (hv : its.toArray[j]? = some v) (r : Reads h' v d bs) (hk : ∀ b o, s.heap.get? b = some o → h'.get? b = some o) : EP (Xf i) pins σ Q v { s with heap := h', toks := tk } := by
  obtain ⟨x, d', as, h1, h2, rr, qq, rd⟩ := dqA_at I q rv (by simpa using hv)
  obtain rfl := reads_same (plain_mem hpl (List.mem_of_getElem? h2)) (PyProof.Rows.Reads.keeps hk rd) r
  exact ⟨x, H, I.kept hk, rr, hq j x h1 h2⟩
theorem clMax [FG : FamG Xf] : Cl1 Xf K (.builtin "max") .s gMax := by
  refine ⟨rItem K gMaxL, fun i => ?_, d1Item fun x d e => ?_⟩
  · intro pins s σ H vs us Q I r h
    obtain ⟨a, xs, ds, d, rfl, hs, q, e, hq⟩ := h
    rw [← F.kk i] at hs q
    rw [Vals.ref1 r]
    cases ds with
    | nil => cases e
    | cons y ys =>
      obtain ⟨hl, rfl⟩ := ite_some e
      obtain ⟨al, dp, pl⟩ := like_ok hl
      have hu : (Xf i).A.units + 1 + PyData.depthAll (y :: ys) < cLine := hu60 (F.room i) dp
      rcases hs with hs | hs
      · obtain ⟨its, rv, hL, _⟩ := I.list hs
        obtain ⟨as, hr⟩ := q.reads I rv
        exact PySem.W.max_list_data (I.ok.hd (FG.calm i)) hL.isList hr al hu fun j v h' tk bs hv rd hk => item_back I q pl rv hq hv rd hk
      · obtain ⟨its, rv, hL, _⟩ := I.tuple hs
        obtain ⟨as, hr⟩ := q.reads I rv
        exact PySem.W.max_tuple_data (I.ok.hd (FG.calm i)) hL hr al hu fun j v h' tk bs hv rd hk => item_back I q pl rv hq hv rd hk
  · unfold gMax at e
    split at e
    · exact ⟨_, .inl rfl, e⟩
    · exact ⟨_, .inr rfl, e⟩
    · cases e
theorem clMin [FG : FamG Xf] : Cl1 Xf K (.builtin "min") .s gMin := by
  refine ⟨rItem K gMinL, fun i => ?_, d1Item fun x d e => ?_⟩
  · intro pins s σ H vs us Q I r h
    obtain ⟨a, xs, ds, d, rfl, hs, q, e, hq⟩ := h
    rw [← F.kk i] at hs q
    rw [Vals.ref1 r]
    cases ds with
    | nil => cases e
    | cons y ys =>
      obtain ⟨hl, rfl⟩ := ite_some e
      obtain ⟨al, dp, pl⟩ := like_ok hl
      have hu : (Xf i).A.units + 1 + PyData.depthAll (y :: ys) < cLine := hu60 (F.room i) dp
      rcases hs with hs | hs
      · obtain ⟨its, rv, hL, _⟩ := I.list hs
        obtain ⟨as, hr⟩ := q.reads I rv
        exact PySem.W.min_list_data (I.ok.hd (FG.calm i)) hL.isList hr al hu fun j v h' tk bs hv rd hk => item_back I q pl rv hq hv rd hk
      · obtain ⟨its, rv, hL, _⟩ := I.tuple hs
        obtain ⟨as, hr⟩ := q.reads I rv
        exact PySem.W.min_tuple_data (I.ok.hd (FG.calm i)) hL hr al hu fun j v h' tk bs hv rd hk => item_back I q pl rv hq hv rd hk
  · unfold gMin at e
    split at e
    · exact ⟨_, .inl rfl, e⟩
    · exact ⟨_, .inr rfl, e⟩
    · cases e
/-- a scalar comes back, whatever the sequence -/
def rSeqS (K : PySem.W.Frag) (gg : PyData → Option PyData) : List V → Hp → VK → Prop := fun vs H Q => ∃ x dx d v, vs = [x] ∧ Dq K H x dx ∧ gg dx = some d ∧ scV d = some v ∧ Q v H
omit F in
theorem d1SeqS {gg : PyData → Option PyData} (hg : ∀ a d, gg a = some d → ∃ v, scV d = some v) : D1 K (fun x => rSeqS K gg [x]) .s gg := fun {m G H σ e A x dx d Q} st hx ee k => by
  obtain ⟨v, hv⟩ := hg _ _ ee
  exact ⟨x, dx, d, v, rfl, hx.mono st.sub, ee, hv, ans_s st (scV_dq hv) k⟩
omit F in
theorem fits_all {G : Hp} {xs : List V} {ds : List PyData} (q : DqA K G xs ds) : ∀ x ∈ ds, x.fits63 := fun x hx => fits_of (dq_mem q hx).choose_spec
theorem clAll [FG : FamG Xf] : Cl1 Xf K (.builtin "all") .s gAll := by
  refine ⟨rSeqS K gAll, fun i => ?_, d1SeqS fun a d e => ?_⟩
  · intro pins s σ H vs us Q I r h
    obtain ⟨x, dx, d, z, rfl, hx, e, hz, q⟩ := h
    rw [← F.kk i] at hx
    cases dx with
    | list ds =>
      obtain ⟨pl, rfl⟩ := ite_some e
      obtain ⟨a, xs, rfl, r1, z1, q1⟩ := dq_lst hx
      rw [Vals.ref1 r]
      obtain ⟨its, rv, hL, _⟩ := I.list (.inl r1)
      obtain ⟨as, hr⟩ := q1.reads I rv
      exact PySem.W.all_list_data (I.ok.hd (FG.calm i)) hL.isList hr pl (fits_all q1) fun h' tk hk => boolE (I.kept hk) hz q
    | tuple ds =>
      obtain ⟨pl, rfl⟩ := ite_some e
      obtain ⟨a, xs, rfl, r1, z1, q1⟩ := dq_tup hx
      rw [Vals.ref1 r]
      obtain ⟨its, rv, hL, _⟩ := I.tuple r1
      obtain ⟨as, hr⟩ := q1.reads I rv
      exact PySem.W.all_tuple_data (I.ok.hd (FG.calm i)) hL hr pl (fits_all q1) fun h' tk hk => boolE (I.kept hk) hz q
    | _ => cases e
  · unfold gAll at e; split at e <;> first | (obtain ⟨_, rfl⟩ := ite_some e; exact ⟨_, rfl⟩) | cases e
theorem clAny [FG : FamG Xf] : Cl1 Xf K (.builtin "any") .s gAny := by
  refine ⟨rSeqS K gAny, fun i => ?_, d1SeqS fun a d e => ?_⟩
  · intro pins s σ H vs us Q I r h
    obtain ⟨x, dx, d, z, rfl, hx, e, hz, q⟩ := h
    rw [← F.kk i] at hx
    cases dx with
    | list ds =>
      obtain ⟨pl, rfl⟩ := ite_some e
      obtain ⟨a, xs, rfl, r1, z1, q1⟩ := dq_lst hx
      rw [Vals.ref1 r]
      obtain ⟨its, rv, hL, _⟩ := I.list (.inl r1)
      obtain ⟨as, hr⟩ := q1.reads I rv
      exact PySem.W.any_list_data (I.ok.hd (FG.calm i)) hL.isList hr pl (fits_all q1) fun h' tk hk => boolE (I.kept hk) hz q
    | tuple ds =>
      obtain ⟨pl, rfl⟩ := ite_some e
      obtain ⟨a, xs, rfl, r1, z1, q1⟩ := dq_tup hx
      rw [Vals.ref1 r]
      obtain ⟨its, rv, hL, _⟩ := I.tuple r1
      obtain ⟨as, hr⟩ := q1.reads I rv
      exact PySem.W.any_tuple_data (I.ok.hd (FG.calm i)) hL hr pl (fits_all q1) fun h' tk hk => boolE (I.kept hk) hz q
    | _ => cases e
  · unfold gAny at e; split at e <;> first | (obtain ⟨_, rfl⟩ := ite_some e; exact ⟨_, rfl⟩) | cases e
omit F in
theorem ints_eq : ∀ {xs : List PyData} {ns : List Int}, intsOf xs = some ns → xs = ns.map .int
  | [], ns, h => by cases h; rfl
  | .int i :: r, ns, h => by
    obtain ⟨ms, h1, rfl⟩ := Option.map_eq_some_iff.mp (show (intsOf r).map (i :: ·) = some ns from h)
    rw [ints_eq h1]; rfl
omit F in
theorem dqA_ints {G : Hp} : ∀ {vs : List V} {ns : List Int}, DqA K G vs (ns.map .int) → vs = ns.map .int
  | [], [], _ => rfl
  | v :: vs, n :: ns, q => by
    have h := q.head
    rw [dq_int h, dqA_ints q.tail]; rfl
  | [], _ :: _, q => by have := q.1; simp at this
  | _ :: _, [], q => by have := q.1; simp at this
omit F in
/-- sum of a list or a tuple of ints -/
theorem cr_sumA {X : Cx} (hc : X.calm = true) : CallR X (.builtin "sum") (fun vs H Q => rSum X.K vs H Q ∨ ∃ (a : Addr) (ns : List Int), vs = [V.ref a] ∧ SqT X.K H a (ns.map V.int) ∧ Q (.int ns.sum) H) := by
  intro pins s σ H vs us Q I r h
  rcases h with h | ⟨a, ns, rfl, hs, q⟩
  · exact cr_sum hc pins s σ H vs us Q I r h
  · rw [Vals.ref1 r]
    obtain ⟨its, rv, hl, _⟩ := I.tuple hs
    obtain ⟨ys, hy⟩ := rv.ints.allInts.items
    have hn : numsOf its.toArray.toList = ns := by rw [show its.toArray.toList = its from rfl, rv.ints.numsOf]
    rw [hy] at hl hn
    rw [nums_intItems] at hn
    refine PySem.W.ktm_sumG (I.ok.hd hc) hl fun h' tk t' hk => ⟨.int ns.sum, H, I.kept hk, ⟨t', ?_⟩, q⟩
    rw [preSum_eq, List.take_of_length_le (by simp), hn]
theorem clSum [FG : FamG Xf] : Cl1 Xf K (.builtin "sum") .s gSum := by
  refine ⟨_, fun i => kkCc (r := fun K vs H Q => rSum K vs H Q ∨ ∃ (a : Addr) (ns : List Int), vs = [V.ref a] ∧ SqT K H a (ns.map V.int) ∧ Q (.int ns.sum) H) (fun X hc => cr_sumA hc) i, fun {m G H σ e A x dx d Q} st hx ee k => ?_⟩
  cases dx with
  | list ds =>
    obtain ⟨ns, hn, rfl⟩ := Option.map_eq_some_iff.mp (show (intsOf ds).map _ = some d from ee)
    obtain ⟨a, xs, rfl, r1, z1, q1⟩ := dq_lst hx
    rw [ints_eq hn] at q1
    have hv := dqA_ints q1
    subst hv
    exact .inl ⟨a, ns, rfl, .inl (same_rd st.sub r1), ans_s st (.int _) k⟩
  | tuple ds =>
    obtain ⟨ns, hn, rfl⟩ := Option.map_eq_some_iff.mp (show (intsOf ds).map _ = some d from ee)
    obtain ⟨a, xs, rfl, r1, z1, q1⟩ := dq_tup hx
    rw [ints_eq hn] at q1
    have hv := dqA_ints q1
    subst hv
    exact .inr ⟨a, ns, rfl, same_seqT st.sub r1, ans_s st (.int _) k⟩
  | _ => cases ee
theorem clAbs : Cl1 Xf K (.builtin "abs") .s gAbs := ⟨_, fun i => call_abs, fun {m G H σ e A x dx d Q} st hx ee k => by
  cases dx with
  | int i =>
    cases ee
    obtain rfl := dq_int hx
    exact ⟨i, rfl, ans_s st (.int _) k⟩
  | _ => cases ee⟩
theorem clInt : Cl1 Xf K (.type "int") .s gInt := ⟨_, fun i => call_int1, fun {m G H σ e A x dx d Q} st hx ee k => by
  cases dx with
  | int i =>
    cases ee
    obtain rfl := dq_int hx
    exact .inl ⟨i, rfl, ans_s st (.int _) k⟩
  | bool b =>
    cases ee
    obtain rfl := dq_bool hx
    exact .inr ⟨b, rfl, ans_s st (.int _) k⟩
  | _ => cases ee⟩
theorem clMax2 [FG : FamG Xf] : Cl2 Xf K (.builtin "max") .s gMax2 := ⟨_, fun i => call_max2 (FG.calm i), fun {m G H σ e A x y dx dy d Q} st hx hy ee k => by
  unfold gMax2 at ee
  split at ee
  · cases ee
    obtain rfl := dq_int hx
    obtain rfl := dq_int hy
    exact ⟨_, _, rfl, ans_s st (.int _) k⟩
  · cases ee⟩
theorem clMin2 [FG : FamG Xf] : Cl2 Xf K (.builtin "min") .s gMin2 := ⟨_, fun i => call_min2 (FG.calm i), fun {m G H σ e A x y dx dy d Q} st hx hy ee k => by
  unfold gMin2 at ee
  split at ee
  · cases ee
    obtain rfl := dq_int hx
    obtain rfl := dq_int hy
    exact ⟨_, _, rfl, ans_s st (.int _) k⟩
  · cases ee⟩
end
end DL

namespace DL
open PySem L2 PySem.Spec

theorem bt_range : bootBuiltins "range" = some (.type "range") := by decide +kernel
theorem bt_enumerate : bootBuiltins "enumerate" = some (.type "enumerate") := by decide +kernel
theorem bt_zip : bootBuiltins "zip" = some (.type "zip") := by decide +kernel

/-! ### enumerate over a tuple (or a list): the library's draws under this layer's walk -/
set_option maxHeartbeats 8000000 in
theorem meets_enum1 {v : Value} {o : Obj} {H : Heap → Prop} (B : Begins v o H) :
    Meets (Builtin.«enumerate.__new__» ⟨[.type "enumerate", v], []⟩) (fun _ R s => H s.heap ∧
      R (.ok (.ret (.ref (s.heap.push o).objs.size))) { s with heap := (s.heap.push o).push { cls := .type "enumerate", data := .fields #[.none, .bool false, .ref s.heap.objs.size, rawInt 0, .none, .none] } }) :=
  .of_wp fun prog w A R s hh => by
    obtain ⟨hp, g, d, tk, os⟩ := s
    obtain ⟨hb, hr⟩ := hh
    have sube := sub_enumerate
    have beg : ∀ {A' : Around} {E : Value → Shared → Prop} {Q : Value → Shared → Prop}, Q (.ref hp.objs.size) ⟨hp.push o, g, d, tk, os⟩ → wpAny (model prog w) A' (pyIter v) Q E ⟨hp, g, d, tk, os⟩ :=
      fun q => B.iter prog w _ _ _ _ hb q
    wp_walk using beg
    refine wpAny_stack_any fun stk => wpAny_pure ?_
    split
    · rename_i cl _ _ _ _ _
      cases (cl == Value.type "enumerate") <;> (wp_walk using beg; exact ⟨_, rfl, hr⟩)
    · wp_walk using beg
      exact ⟨_, rfl, hr⟩
theorem call_enum1 {prog : Program} {w : World} {A : Around} {E : Value → Shared → Prop} {s : Shared} {v : Value} {o : Obj} {H : Heap → Prop} {Q : Value → Shared → Prop} (B : Begins v o H) (hb : H s.heap)
    (k : ∀ h', IsEnum h' (s.heap.objs.size + 1) s.heap.objs.size 0 .none → h'.get? s.heap.objs.size = some o → (∀ b u, s.heap.get? b = some u → h'.get? b = some u) → Q (.ref (s.heap.objs.size + 1)) { s with heap := h' }) :
    wpAny (model prog w) A (call (.type "enumerate") [v]) Q E s := by
  refine callType_new PySem.F.called_enumerate (by decide) (PySem.F.typeCall_enumerate_1 _) (PySem.F.newCall_enumerate_1 _) (fun obj => PySem.F.args_object_init_2 obj _) PySem.F.entry_enumerate_new (meets_enum1 B) ⟨hb, ?_⟩
  have sz : (s.heap.push o).objs.size = s.heap.objs.size + 1 := Heap.size_push ..
  have at1 : IsEnum ((s.heap.push o).push { cls := .type "enumerate", data := .fields #[.none, .bool false, .ref s.heap.objs.size, rawInt 0, .none, .none] }) (s.heap.push o).objs.size s.heap.objs.size 0 .none := Heap.get?_push_size _ rfl
  show _ ∧ _
  rw [sz] at at1 ⊢
  exact ⟨⟨_, at1, rfl⟩, k _ at1 (Heap.get?_push_of_some _ (Heap.get?_push_size _ B.free)) fun b u q => Heap.get?_push_of_some _ (Heap.get?_push_of_some _ q)⟩

/-- the tuple at a as it stands at each turn, each item in a new pair -/
def IteT (K : PySem.W.Frag) (a : Addr) : It where
  go i H := ∃ (xs : List V) (x : V), SqT K H a xs ∧ xs[i]? = some x
  yld i H v H' := ∃ (T : Addr) (x : V), v = .ref T ∧ H T = none ∧ H' = upd H T (.tup [.int (i : Nat), x]) ∧ ∀ xs, SqT K H a xs → xs[i]? = some x
  stop i H := ∃ xs : List V, SqT K H a xs ∧ xs.length = i
theorem turn_enumT {P : Program} {w : World} {K : PySem.W.Frag} {elts : List Expr} {kk : Nat} {tpos : Pos} (a e it : Addr) :
    Turn P w K (.Tuple elts kk tpos) (IteT K a) [e, it] e (fun i h => (∃ old, IsEnum h e it ((i : Nat) : Int) old) ∧ h.IsTupleIter it a i ∧ e ≠ it) where
  mem := List.mem_cons_self ..
  obj i h st b hb := by
    rcases List.mem_cons.mp hb with rfl | hb
    · obtain ⟨old, he⟩ := st.1
      exact ⟨_, he, fun _ z => nomatch z⟩
    · obtain rfl := List.mem_singleton.mp hb
      obtain ⟨o, ho, _, hd⟩ := st.2.1
      exact ⟨o, ho, fun _ z => by rw [hd] at z; cases z⟩
  keep i h h' st k := ⟨st.1.imp fun old he => k e (List.mem_cons_self ..) _ he, st.2.1.at fun o z => k it (List.mem_cons_of_mem _ (List.mem_singleton.mpr rfl)) o z, st.2.2⟩
  item := by
    rintro X rfl rfl rfl calm i pins s σ H E I own ⟨⟨old, he⟩, hit, ne⟩ ⟨xs, x, hq, hx⟩
    obtain ⟨its, rv, tp, _⟩ := I.tuple hq
    obtain ⟨u, hu, ru⟩ := rv.get hx
    have le := Heap.lt_size he
    have li : it < s.heap.objs.size := hit.elim fun o z => Heap.lt_size z.1
    have lt : i < its.toArray.size := by simpa using (List.getElem?_eq_some_iff.mp hu).1
    have ta : a ≠ it := fun z => by
      obtain ⟨o, ho, hc, _⟩ := hit
      obtain ⟨o', ho', hc', _⟩ := tp
      rw [z, ho] at ho'; cases ho'
      rw [hc] at hc'; exact absurd (Value.type.inj hc') (by decide)
    have ea : e ≠ a := fun z => by
      obtain ⟨o', ho', hc', _⟩ := tp
      rw [← z, he] at ho'; cases ho'
      exact absurd (Value.type.inj hc') (by decide)
    have hefp : e ∉ [it, a] := fun z => by
      rcases List.mem_cons.mp z with z | z
      · exact ne z
      · exact ea (List.mem_singleton.mp z)
    refine wpAny_pyNext_enum_itemC (Draws.tuple (A := X.A.in1) (I.ok.hd calm) it a ta its.toArray) he ⟨hit, tp⟩ lt ne hefp fun y h1 tk hy out st1 hT sz kept => ?_
    have hyu : y = u := by
      have : its.toArray[i]? = some u := by simpa using hu
      rw [this] at hy; exact (Option.some.inj hy).symm
    subst hyu
    refine ⟨_, rfl, wpAny_letOwnedTupleGo_enum (s := { s with heap := h1, toks := tk + 1 }) out fun h2 he2 same => ?_⟩
    have T2 : h2.get? s.heap.objs.size = some { cls := .type "tuple", data := .seq #[.int i tk, y] } := (same.2 _ (Nat.ne_of_gt le)).trans hT
    have okT : ObjOk X.prog X.w (upd H s.heap.objs.size (.tup [.int (i : Nat), x])) h2 s.heap.objs.size (.tup [.int (i : Nat), x]) :=
      ⟨by show 2 ≤ sizeLine; decide, [.int i tk, y], .cons ⟨tk, rfl⟩ (.cons ru .nil), ⟨_, T2, rfl, _, rfl⟩⟩
    have J := I.turnedNew (t' := tk + 1) (ch := [e, it]) (h' := h2) (fun b ob hb q => (same.2 b fun z => hb (by rw [z]; exact List.mem_cons_self ..)).trans (kept b ob (fun z => hb (by rw [z]; exact List.mem_cons_self ..)) (fun z => hb (by rw [z]; exact List.mem_cons_of_mem _ (List.mem_singleton.mpr rfl))) q)) own (Nat.le_refl _) okT
    refine ⟨.ref s.heap.objs.size, _, J, rfl, ⟨_, x, rfl, I.hok.fresh (Nat.le_refl _), rfl, fun ys hy' => by rw [I.tuple_inj hy' hq]; exact hx⟩, ⟨⟨y, by rw [show ((i + 1 : Nat) : Int) = (i : Int) + 1 by omega]; exact he2⟩, st1.1.at fun o q => (same.2 it (Ne.symm ne)).trans q, ne⟩, fun b hb => ?_⟩
    have lb : b < s.heap.objs.size := by
      rcases List.mem_cons.mp hb with z | z
      · rw [z]; exact le
      · rw [List.mem_singleton.mp z]; exact li
    rw [upd_ne (Nat.ne_of_lt lb)]
    exact (own b hb).1
  done := by
    rintro X rfl rfl rfl calm i pins s σ H E I own ⟨⟨old, he⟩, hit, ne⟩ ⟨xs, hq, hx⟩
    obtain ⟨its, rv, tp, _⟩ := I.tuple hq
    have ta : a ≠ it := fun z => by
      obtain ⟨o, ho, hc, _⟩ := hit
      obtain ⟨o', ho', hc', _⟩ := tp
      rw [z, ho] at ho'; cases ho'
      rw [hc] at hc'; exact absurd (Value.type.inj hc') (by decide)
    obtain ⟨f0, f1, f2, f3, f4, f5⟩ := own it (List.mem_cons_of_mem _ (List.mem_singleton.mpr rfl))
    have hz : its.toArray.size = i := by have := rv.length; simp; omega
    subst hz
    exact wpAny_pyNext_enum_endD (Draws.tuple (A := X.A.in1) (I.ok.hd calm) it a ta its.toArray) he ⟨hit, tp⟩ fun h' eb => ⟨rfl, I.turned (t' := s.toks) (fun b o hb q => eb b o hb q) f0 f1 f3 f4 f5⟩
  self A i s Q E st q := st.1.elim fun old he => wpAny_pyIter_enum he q
end DL

namespace DL
open PySem L2 PySem.Spec

theorem pi_enumT {X : Cx} {e : Expr} {ta : TA} {p pos tpos : Pos} {elts : List Expr} {kk : Nat} (hg : Gl X "enumerate") (hm : X.mg "enumerate" = none) (ha : PA X [e] ta) (hs : starEach [e] X.env = [(false, eval e X.env)] := by rfl) :
    PI X (.Tuple elts kk tpos) (.Call (.Name "enumerate" p) [e] [] pos) (fun σ H R => ta σ H fun vs H1 => ∃ a xs, vs = [.ref a] ∧ SqT X.K H1 a xs ∧ R (IteT X.K a) H1) := by
  refine ⟨fun pins s σ H R I h => PyProof.Rows.Call_ (ld_blt I hg hm bt_enumerate (PyProof.Rows.callWith_type1 (thn (ha.run pos pins s σ H _ I h) ?_) hs rfl))⟩
  rintro us s1 ⟨vs, H1, I1, r1, a, xs, rfl, hq, q⟩
  rw [Vals.ref1 r1]
  obtain ⟨its, rv, tp, hz⟩ := I1.tuple hq
  refine call_enum1 (begins_tuple a its.toArray) tp fun h' he hit hk => wpAny_pyIter_enum he ?_
  refine ⟨s1.heap.objs.size + 1, [s1.heap.objs.size + 1, s1.heap.objs.size], _, _, H1, rfl, I1.kept (t' := s1.toks) hk, turn_enumT a _ s1.heap.objs.size, ⟨⟨.none, he⟩, ⟨_, hit, rfl, rfl⟩, Nat.succ_ne_self _⟩, fun b hb => ?_, q⟩
  have le : s1.heap.objs.size ≤ b := by
    rcases List.mem_cons.mp hb with z | z
    · rw [z]; exact Nat.le_succ _
    · rw [List.mem_singleton.mp z]; exact Nat.le_refl _
  exact I1.fpOk le (I1.hok.fresh le)
theorem PI.or {X : Cx} {tg iter : Expr} {w1 w2 : TI} (h1 : PI X tg iter w1) (h2 : PI X tg iter w2) : PI X tg iter (fun σ H R => w1 σ H R ∨ w2 σ H R) :=
  ⟨fun pins s σ H R I h => h.elim (h1.run pins s σ H R I) (h2.run pins s σ H R I)⟩

/-! ### walks that give stable data -/
/-- stable data, or (when wk) a pair just made -/
def DqW (wk : Bool) (K : PySem.W.Frag) (G : Hp) (x : V) (d : PyData) : Prop := Dq K G x d ∨ (wk = true ∧ ∃ (a : Addr) (xs : List V) (ds : List PyData), x = .ref a ∧ d = .tuple ds ∧ SqT K G a xs ∧ DqA K G xs ds)
theorem DqW.strong {K : PySem.W.Frag} {G : Hp} {x : V} {d : PyData} (h : DqW false K G x d) : Dq K G x d := by
  rcases h with h | ⟨h, _⟩
  · exact h
  · cases h
theorem dqW_tup {wk : Bool} {K : PySem.W.Frag} {G : Hp} {x : V} {ds : List PyData} (h : DqW wk K G x (.tuple ds)) : ∃ a xs, x = .ref a ∧ SqT K G a xs ∧ DqA K G xs ds := by
  rcases h with h | ⟨_, a, xs, ds', h1, h2, h3, h4⟩
  · obtain ⟨a, xs, h1, h2, _, h3⟩ := dq_tup h
    exact ⟨a, xs, h1, h2, h3⟩
  · cases h2
    exact ⟨a, xs, h1, h3, h4⟩
structure WalkS (K : PySem.W.Frag) (G0 : Hp) (J : It) (ds : List PyData) : Prop where
  goes : ∀ i H, i < ds.length → Same G0 H → J.go i H
  stops : ∀ H, Same G0 H → J.stop ds.length H
  yields : ∀ {i : Nat} {H : Hp} {x : V} {H' : Hp} {m : List Ty} {G : Hp} {σ : St} {e : En} {A : List Addr}, i < ds.length → Same G0 G → Stt K m G H σ e A → J.yld i H x H' →
    ∃ G', Step A G H A G' H' ∧ Stt K m G' H' σ e A ∧ Same G G' ∧ ∀ d, ds[i]? = some d → Dq K G' x d
structure WalkD (K : PySem.W.Frag) (wk : Bool) (G0 : Hp) (J : It) (ds : List PyData) : Prop where
  goes : ∀ i H, i < ds.length → Same G0 H → J.go i H
  stops : ∀ H, Same G0 H → J.stop ds.length H
  yields : ∀ {i : Nat} {H : Hp} {x : V} {H' : Hp} {m : List Ty} {G : Hp} {σ : St} {e : En} {A : List Addr}, i < ds.length → Same G0 G → Stt K m G H σ e A → J.yld i H x H' →
    ∃ G', Step A G H A G' H' ∧ Stt K m G' H' σ e A ∧ Same G G' ∧ ∀ d, ds[i]? = some d → DqW wk K G' x d
theorem WalkS.d {wk : Bool} {K : PySem.W.Frag} {G0 : Hp} {J : It} {ds : List PyData} (h : WalkS K G0 J ds) : WalkD K wk G0 J ds :=
  ⟨h.goes, h.stops, fun hi s st y => by
    obtain ⟨G2, s2, st2, sg, k⟩ := h.yields hi s st y
    exact ⟨G2, s2, st2, sg, fun d hd => .inl (k d hd)⟩⟩
def DI (K : PySem.W.Frag) (wk : Bool) (m : List Ty) (wi : TI) (f : Lf) (m' : List Ty) : Prop :=
  ∀ {G H : Hp} {σ : St} {e : En} {A : List Addr} {ds : List PyData} {e' : En} {R : It → Hp → Prop}, Stt K m G H σ e A → f e = some (ds, e') →
    (∀ (G' H' : Hp) (A' : List Addr) (J : It), Step A G H A' G' H' → Stt K m' G' H' σ e' A' → WalkD K wk G' J ds → ds.length ≤ sizeLine → R J H') → wi σ H R
structure PIt {ι : Type} (Xf : ι → Cx) (K : PySem.W.Frag) (wk : Bool) (m : List Ty) (tg iter : Expr) (f : Lf) (m' : List Ty) : Prop where
  ex : ∃ wi : TI, (∀ i, PI (Xf i) tg iter wi) ∧ DI K wk m wi f m'

section
variable {K : PySem.W.Frag} {G H : Hp} {m : List Ty} {σ : St} {e : En} {A : List Addr}
theorem walkD_list {a : Addr} {xs : List V} {ds : List PyData} (hr : Rd G a (.lst xs)) (q : DqA K G xs ds) : WalkS K G (Itl K a) ds := by
  have l := q.1
  refine ⟨fun i H hi s => ⟨xs, xs[i]'(by omega), .inl (same_rd s hr), List.getElem?_eq_getElem (by omega)⟩, fun H s => ⟨xs, .inl (same_rd s hr), by omega⟩, fun {i H x H' m G' σ e A} hi s st y => ?_⟩
  obtain ⟨rfl, y⟩ := y
  refine ⟨G', Step.refl, st, Same.refl _, fun d hd => ?_⟩
  have hx := y xs (.inl (same_rd (s.trans st.sub) hr))
  exact (q.2 i x d hx hd).mono s
theorem walkD_tup {a : Addr} {xs : List V} {ds : List PyData} (hr : SqT K G a xs) (q : DqA K G xs ds) : WalkS K G (Itt K a) ds := by
  have l := q.1
  refine ⟨fun i H hi s => ⟨xs, xs[i]'(by omega), same_seqT s hr, List.getElem?_eq_getElem (by omega)⟩, fun H s => ⟨xs, same_seqT s hr, by omega⟩, fun {i H x H' m G' σ e A} hi s st y => ?_⟩
  obtain ⟨rfl, y⟩ := y
  refine ⟨G', Step.refl, st, Same.refl _, fun d hd => ?_⟩
  have hx := y xs (same_seqT (s.trans st.sub) hr)
  exact (q.2 i x d hx hd).mono s
def rngD (lo : Int) (n : Nat) : List PyData := (List.range n).map fun i => .int (lo + (i : Nat))
theorem rngD_len (lo : Int) (n : Nat) : (rngD lo n).length = n := by simp [rngD]
theorem walkD_range {lo : Int} {n : Nat} : WalkS K G (Itr lo n) (rngD lo n) := by
  refine ⟨fun i H hi _ => by rw [rngD_len] at hi; exact hi, fun H _ => by rw [rngD_len]; exact Nat.le_refl n, fun {i H x H' m G' σ e A} hi s st y => ?_⟩
  obtain ⟨rfl, rfl⟩ := y
  refine ⟨G', Step.refl, st, Same.refl _, fun d hd => ?_⟩
  rw [rngD_len] at hi
  unfold rngD at hd
  rw [List.getElem?_map, List.getElem?_range hi] at hd
  cases hd
  exact .int _
def enumD : Nat → List PyData → List PyData
  | _, [] => []
  | k, d :: r => .tuple [.int (k : Nat), d] :: enumD (k + 1) r
theorem enumD_len : ∀ (k : Nat) (ds : List PyData), (enumD k ds).length = ds.length
  | _, [] => rfl
  | k, d :: r => by simp [enumD, enumD_len (k + 1) r]
theorem enumD_get : ∀ (k : Nat) (ds : List PyData) (i : Nat) (d : PyData), (enumD k ds)[i]? = some d → ∃ d0, ds[i]? = some d0 ∧ d = .tuple [.int ((k + i : Nat) : Int), d0]
  | _, [], i, d, h => by simp [enumD] at h
  | k, d0 :: r, 0, d, h => by simp [enumD] at h; exact ⟨d0, rfl, by simpa using h.symm⟩
  | k, d0 :: r, i + 1, d, h => by
    obtain ⟨d1, h1, h2⟩ := enumD_get (k + 1) r i d (by simpa [enumD] using h)
    exact ⟨d1, by simpa using h1, by rw [h2]; congr 3; omega⟩
/-- a new stable pair -/
theorem pair_new {p : Addr} {x y : V} {dx dy : PyData} (st : Stt K m G H σ e A) (hp : H p = none) (hx : Dq K G x dx) (hy : Dq K G y dy) :
    ∃ G', Step A G H A G' (upd H p (.tup [x, y])) ∧ Stt K m G' (upd H p (.tup [x, y])) σ e A ∧ Same G G' ∧ DqW true K G' (.ref p) (.tuple [dx, dy]) := by
  obtain ⟨s1, st1, sg⟩ := new_s (o := .tup [x, y]) st hp
  have q : DqA K (upd G p (.tup [x, y])) [x, y] [dx, dy] := (hx.mono sg |> fun a => DqA.cons a (DqA.cons (hy.mono sg) DqA.nil))
  exact ⟨_, s1, st1, sg, .inr ⟨rfl, p, _, _, rfl, rfl, SqT.of upd_same, q⟩⟩
theorem walkD_enumL {a : Addr} {xs : List V} {ds : List PyData} (hr : Rd G a (.lst xs)) (q : DqA K G xs ds) : WalkD K true G (Ite K a) (enumD 0 ds) := by
  have l := q.1
  refine ⟨fun i H hi s => ?_, fun H s => ⟨xs, .inl (same_rd s hr), by rw [enumD_len]; omega⟩, fun {i H x H' m G' σ e A} hi s st y => ?_⟩
  · rw [enumD_len] at hi
    exact ⟨xs, xs[i]'(by omega), .inl (same_rd s hr), List.getElem?_eq_getElem (by omega)⟩
  · obtain ⟨T, z, rfl, hT, rfl, hz⟩ := y
    rw [enumD_len] at hi
    have hx := hz xs (.inl (same_rd (s.trans st.sub) hr))
    have qz := (q.2 i z _ hx (List.getElem?_eq_getElem hi)).mono s
    obtain ⟨G2, s2, st2, sg2, q2⟩ := pair_new st hT (.int ((i : Nat) : Int)) qz
    refine ⟨G2, s2, st2, sg2, fun d hd => ?_⟩
    obtain ⟨d0, h1, rfl⟩ := enumD_get 0 ds i d hd
    rw [List.getElem?_eq_getElem hi] at h1
    cases h1
    rw [Nat.zero_add]; exact q2
theorem walkD_enumT {a : Addr} {xs : List V} {ds : List PyData} (hr : SqT K G a xs) (q : DqA K G xs ds) : WalkD K true G (IteT K a) (enumD 0 ds) := by
  have l := q.1
  refine ⟨fun i H hi s => ?_, fun H s => ⟨xs, same_seqT s hr, by rw [enumD_len]; omega⟩, fun {i H x H' m G' σ e A} hi s st y => ?_⟩
  · rw [enumD_len] at hi
    exact ⟨xs, xs[i]'(by omega), same_seqT s hr, List.getElem?_eq_getElem (by omega)⟩
  · obtain ⟨T, z, rfl, hT, rfl, hz⟩ := y
    rw [enumD_len] at hi
    have hx := hz xs (same_seqT (s.trans st.sub) hr)
    have qz := (q.2 i z _ hx (List.getElem?_eq_getElem hi)).mono s
    obtain ⟨G2, s2, st2, sg2, q2⟩ := pair_new st hT (.int ((i : Nat) : Int)) qz
    refine ⟨G2, s2, st2, sg2, fun d hd => ?_⟩
    obtain ⟨d0, h1, rfl⟩ := enumD_get 0 ds i d hd
    rw [List.getElem?_eq_getElem hi] at h1
    cases h1
    rw [Nat.zero_add]; exact q2
def zipD : List PyData → List PyData → List PyData
  | a :: as, b :: bs => .tuple [a, b] :: zipD as bs
  | _, _ => []
theorem zipD_len : ∀ (as bs : List PyData), (zipD as bs).length = min as.length bs.length
  | [], _ => by simp [zipD]
  | _ :: _, [] => by simp [zipD]
  | a :: as, b :: bs => by simp [zipD, zipD_len as bs]
theorem zipD_get : ∀ (as bs : List PyData) (i : Nat) (d : PyData), (zipD as bs)[i]? = some d → ∃ x y, as[i]? = some x ∧ bs[i]? = some y ∧ d = .tuple [x, y]
  | [], _, i, d, h => by simp [zipD] at h
  | _ :: _, [], i, d, h => by simp [zipD] at h
  | a :: as, b :: bs, 0, d, h => by simp [zipD] at h; exact ⟨a, b, rfl, rfl, h.symm⟩
  | a :: as, b :: bs, i + 1, d, h => by
    obtain ⟨x, y, h1, h2, h3⟩ := zipD_get as bs i d (by simpa [zipD] using h)
    exact ⟨x, y, by simpa using h1, by simpa using h2, h3⟩
theorem walkD_zipL {a b : Addr} {xs ys : List V} {ds es : List PyData} (hr : Rd G a (.lst xs)) (q : DqA K G xs ds) (hr2 : Rd G b (.lst ys)) (q2 : DqA K G ys es) : WalkD K true G (Itz K a b) (zipD ds es) := by
  have l := q.1
  have l2 := q2.1
  refine ⟨fun i H hi s => ?_, fun H s => ⟨xs, ys, .inl (same_rd s hr), .inl (same_rd s hr2), by rw [zipD_len]; omega⟩, fun {i H x H' m G' σ e A} hi s st y => ?_⟩
  · rw [zipD_len] at hi
    exact ⟨xs, ys, xs[i]'(by omega), ys[i]'(by omega), .inl (same_rd s hr), .inl (same_rd s hr2), List.getElem?_eq_getElem (by omega), List.getElem?_eq_getElem (by omega)⟩
  · obtain ⟨T, z, z2, rfl, hT, rfl, hz, hz2⟩ := y
    have hx := hz xs (.inl (same_rd (s.trans st.sub) hr))
    have hy := hz2 ys (.inl (same_rd (s.trans st.sub) hr2))
    obtain ⟨d, hd⟩ : ∃ d, (zipD ds es)[i]? = some d := ⟨_, List.getElem?_eq_getElem hi⟩
    obtain ⟨dx, dy, h1, h2, rfl⟩ := zipD_get _ _ _ _ hd
    obtain ⟨G2, s2, st2, sg2, q3⟩ := pair_new st hT ((q.2 i z _ hx h1).mono s) ((q2.2 i z2 _ hy h2).mono s)
    exact ⟨G2, s2, st2, sg2, fun d' hd' => by rw [hd] at hd'; cases hd'; exact q3⟩
theorem walkD_zipT {a b : Addr} {xs ys : List V} {ds es : List PyData} (hr : SqT K G a xs) (q : DqA K G xs ds) (hr2 : SqT K G b ys) (q2 : DqA K G ys es) : WalkD K true G (RZ.ItzT K a b) (zipD ds es) := by
  have l := q.1
  have l2 := q2.1
  refine ⟨fun i H hi s => ?_, fun H s => ⟨xs, ys, same_seqT s hr, same_seqT s hr2, by rw [zipD_len]; omega⟩, fun {i H x H' m G' σ e A} hi s st y => ?_⟩
  · rw [zipD_len] at hi
    exact ⟨xs, ys, xs[i]'(by omega), ys[i]'(by omega), same_seqT s hr, same_seqT s hr2, List.getElem?_eq_getElem (by omega), List.getElem?_eq_getElem (by omega)⟩
  · obtain ⟨T, z, z2, rfl, hT, rfl, hz, hz2⟩ := y
    have hx := hz xs (same_seqT (s.trans st.sub) hr)
    have hy := hz2 ys (same_seqT (s.trans st.sub) hr2)
    obtain ⟨d, hd⟩ : ∃ d, (zipD ds es)[i]? = some d := ⟨_, List.getElem?_eq_getElem hi⟩
    obtain ⟨dx, dy, h1, h2, rfl⟩ := zipD_get _ _ _ _ hd
    obtain ⟨G2, s2, st2, sg2, q3⟩ := pair_new st hT ((q.2 i z _ hx h1).mono s) ((q2.2 i z2 _ hy h2).mono s)
    exact ⟨G2, s2, st2, sg2, fun d' hd' => by rw [hd] at hd'; cases hd'; exact q3⟩
end

/-! ### iterables -/
def seqD : PyData → Option (List PyData)
  | .list xs => some xs
  | .tuple xs => some xs
  | _ => none
def iSeq (f : Ef) : Lf := fun e => (f e).bind fun p => (seqD p.1).bind fun ds => some (ds, p.2)
def iEn (f : Ef) : Lf := fun e => (f e).bind fun p => (seqD p.1).bind fun ds => some (enumD 0 ds, p.2)
def zipS : PyData → PyData → Option (List PyData)
  | .list xs, .list ys => some (zipD xs ys)
  | .tuple xs, .tuple ys => some (zipD xs ys)
  | _, _ => none
def iZp (f g : Ef) : Lf := fun e => (f e).bind fun p => (g p.2).bind fun q => (zipS p.1 q.1).bind fun ds => some (ds, q.2)
def rng1 : PyData → Option (List PyData)
  | .int j => if j.toNat ≤ sizeLine ∧ -(2 ^ 62) ≤ j ∧ j < 2 ^ 62 then some (rngD 0 j.toNat) else none
  | _ => none
def rng2 : PyData → PyData → Option (List PyData)
  | .int i, .int j => if (j - i).toNat ≤ sizeLine ∧ -(2 ^ 62) ≤ i ∧ i < 2 ^ 62 ∧ -(2 ^ 62) ≤ j ∧ j < 2 ^ 62 then some (rngD i (j - i).toNat) else none
  | _, _ => none
def iR1 (f : Ef) : Lf := fun e => (f e).bind fun p => (rng1 p.1).bind fun ds => some (ds, p.2)
def iR2 (f g : Ef) : Lf := fun e => (f e).bind fun p => (g p.2).bind fun q => (rng2 p.1 q.1).bind fun ds => some (ds, q.2)

section
variable {ι : Type} {Xf : ι → Cx} {P : Program} {w : World} {K : PySem.W.Frag} {mg : Str → Option Value} {base : Heap} {n : Nat} [F : Fam Xf P w K mg base n]
variable {m m1 m2 m3 : List Ty} {pos p p2 tpos : Pos} {a b c tg : Expr} {elts : List Expr} {kk : Nat} {f g h : Ef}
include F
theorem pi_seq (ha : PD Xf K m a .s f m1) : PIt Xf K false m tg a (iSeq f) m1 := by
  obtain ⟨ta, pa, da⟩ := ha.ex
  refine ⟨_, fun i => PI.or (by have := pi_list (tg := tg) (pa i); rw [F.kk i] at this; exact this) (by have := pi_tup (tg := tg) (pa i); rw [F.kk i] at this; exact this), fun {G H σ e A ds e' R} st hf k => ?_⟩
  unfold iSeq at hf
  obtain ⟨⟨d1, e1⟩, hf1, hf⟩ := Option.bind_eq_some_iff.mp hf
  obtain ⟨ds1, hf2, hf⟩ := Option.bind_eq_some_iff.mp hf
  cases hf
  cases d1 with
  | list xs =>
    cases hf2
    refine .inl (da st hf1 fun G1 H1 v1 A1 B1 s1 st1 o1 nd1 => ?_)
    cases o1 with
    | s q1 =>
      obtain ⟨a, vs, rfl, r1, z1, qq⟩ := dq_lst q1
      exact ⟨a, rfl, ⟨vs, .inl (same_rd st1.sub r1)⟩, k _ _ _ _ s1 st1 (walkD_list r1 qq).d (by rw [← qq.1]; exact z1)⟩
  | tuple xs =>
    cases hf2
    refine .inr (da st hf1 fun G1 H1 v1 A1 B1 s1 st1 o1 nd1 => ?_)
    cases o1 with
    | s q1 =>
      obtain ⟨a, vs, rfl, r1, z1, qq⟩ := dq_tup q1
      exact ⟨a, rfl, ⟨vs, same_seqT st1.sub r1⟩, k _ _ _ _ s1 st1 (walkD_tup r1 qq).d (by rw [← qq.1]; exact z1)⟩
  | _ => cases hf2
theorem pi_r1 (hm : mg "range" = none) (ha : PD Xf K m a .s f m1) (hg : ∀ i, Gl (Xf i) "range" := by intro _; rfl) (hs : ∀ i, starEach [a] (Xf i).env = [(false, eval a (Xf i).env)] := by intro _; rfl) : PIt Xf K false m tg (.Call (.Name "range" p) [a] [] pos) (iR1 f) m1 := by
  obtain ⟨ta, pa, da⟩ := ha.ex
  refine ⟨_, fun i => pi_range1 (hg i) (by rw [F.mg_ i]; exact hm) (pa_cons (pa i) pa_nil (hs i)) (hs i), fun {G H σ e A ds e' R} st hf k => ?_⟩
  unfold iR1 at hf
  obtain ⟨⟨d1, e1⟩, hf1, hf⟩ := Option.bind_eq_some_iff.mp hf
  obtain ⟨ds1, hf2, hf⟩ := Option.bind_eq_some_iff.mp hf
  cases hf
  refine da st hf1 fun G1 H1 v1 A1 B1 s1 st1 o1 nd1 => ?_
  cases o1 with
  | s q1 =>
    cases d1 with
    | int j =>
      obtain ⟨hz, rfl⟩ := ite_some hf2
      replace hz := And.intro hz.2.1 (And.intro hz.2.2 hz.1)
      obtain rfl := dq_int q1
      exact ⟨j, rfl, hz.1, hz.2.1, k _ _ _ _ s1 st1 walkD_range.d (by rw [rngD_len]; exact hz.2.2)⟩
    | _ => cases hf2
theorem pi_r2 (hm : mg "range" = none) (ha : PD Xf K m a .s f m1) (hb : PD Xf K m1 b .s g m2) (hg : ∀ i, Gl (Xf i) "range" := by intro _; rfl) (hs : ∀ i, starEach [a, b] (Xf i).env = [(false, eval a (Xf i).env), (false, eval b (Xf i).env)] := by intro _; rfl) (hs2 : ∀ i, starEach [b] (Xf i).env = [(false, eval b (Xf i).env)] := by intro _; rfl) :
    PIt Xf K false m tg (.Call (.Name "range" p) [a, b] [] pos) (iR2 f g) m2 := by
  obtain ⟨ta, pa, da⟩ := ha.ex
  obtain ⟨tb, pb, db⟩ := hb.ex
  refine ⟨_, fun i => pi_range2 (hg i) (by rw [F.mg_ i]; exact hm) (pa_cons (pa i) (pa_cons (pb i) pa_nil (hs2 i)) (by rw [hs i, hs2 i])) (hs i) (hs2 i), fun {G H σ e A ds e' R} st hf k => ?_⟩
  unfold iR2 at hf
  obtain ⟨⟨d1, e1⟩, hf1, hf⟩ := Option.bind_eq_some_iff.mp hf
  obtain ⟨⟨d2, e2⟩, hf2, hf⟩ := Option.bind_eq_some_iff.mp hf
  obtain ⟨ds1, hf3, hf⟩ := Option.bind_eq_some_iff.mp hf
  cases hf
  refine da st hf1 fun G1 H1 v1 A1 B1 s1 st1 o1 nd1 => ?_
  cases o1 with
  | s q1 =>
    refine db st1 hf2 fun G2 H2 v2 A2 B2 s2 st2 o2 nd2 => ?_
    cases o2 with
    | s q2 =>
      have hf3 : rng2 d1 d2 = some ds := hf3
      unfold rng2 at hf3
      split at hf3
      · obtain ⟨hz, rfl⟩ := ite_some hf3
        replace hz := And.intro hz.2.1 (And.intro hz.2.2.1 (And.intro hz.2.2.2.1 (And.intro hz.2.2.2.2 hz.1)))
        obtain rfl := dq_int q1
        obtain rfl := dq_int q2
        exact ⟨_, _, rfl, ⟨hz.1, hz.2.1, hz.2.2.1, hz.2.2.2.1⟩, k _ _ _ _ (s1.seq0 s2) st2 walkD_range.d (by rw [rngD_len]; exact hz.2.2.2.2)⟩
      · cases hf3
theorem pi_en (hm : mg "enumerate" = none) (ha : PD Xf K m a .s f m1) (hg : ∀ i, Gl (Xf i) "enumerate" := by intro _; rfl) (hs : ∀ i, starEach [a] (Xf i).env = [(false, eval a (Xf i).env)] := by intro _; rfl) : PIt Xf K true m (.Tuple elts kk tpos) (.Call (.Name "enumerate" p) [a] [] pos) (iEn f) m1 := by
  obtain ⟨ta, pa, da⟩ := ha.ex
  refine ⟨_, fun i => PI.or (by have := L2.pi_enum (elts := elts) (kk := kk) (tpos := tpos) (p := p) (pos := pos) (hg i) (by rw [F.mg_ i]; exact hm) (pa_cons (pa i) pa_nil (hs i)) (hs i); rw [F.kk i] at this; exact this)
    (by have := pi_enumT (elts := elts) (kk := kk) (tpos := tpos) (p := p) (pos := pos) (hg i) (by rw [F.mg_ i]; exact hm) (pa_cons (pa i) pa_nil (hs i)) (hs i); rw [F.kk i] at this; exact this), fun {G H σ e A ds e' R} st hf k => ?_⟩
  unfold iEn at hf
  obtain ⟨⟨d1, e1⟩, hf1, hf⟩ := Option.bind_eq_some_iff.mp hf
  obtain ⟨ds1, hf2, hf⟩ := Option.bind_eq_some_iff.mp hf
  cases hf
  cases d1 with
  | list xs =>
    cases hf2
    refine .inl (da st hf1 fun G1 H1 v1 A1 B1 s1 st1 o1 nd1 => ?_)
    cases o1 with
    | s q1 =>
      obtain ⟨a, vs, rfl, r1, z1, qq⟩ := dq_lst q1
      exact ⟨a, vs, rfl, .inl (same_rd st1.sub r1), k _ _ _ _ s1 st1 (walkD_enumL r1 qq) (by rw [enumD_len, ← qq.1]; exact z1)⟩
  | tuple xs =>
    cases hf2
    refine .inr (da st hf1 fun G1 H1 v1 A1 B1 s1 st1 o1 nd1 => ?_)
    cases o1 with
    | s q1 =>
      obtain ⟨a, vs, rfl, r1, z1, qq⟩ := dq_tup q1
      exact ⟨a, vs, rfl, same_seqT st1.sub r1, k _ _ _ _ s1 st1 (walkD_enumT r1 qq) (by rw [enumD_len, ← qq.1]; exact z1)⟩
  | _ => cases hf2
theorem pi_zp (hm : mg "zip" = none) (ha : PD Xf K m a .s f m1) (hb : PD Xf K m1 b .s g m2) (hg : ∀ i, Gl (Xf i) "zip" := by intro _; rfl) (hs : ∀ i, starEach [a, b] (Xf i).env = (false, eval a (Xf i).env) :: starEach [b] (Xf i).env := by intro _; rfl) (hs2 : ∀ i, starEach [b] (Xf i).env = (false, eval b (Xf i).env) :: starEach [] (Xf i).env := by intro _; rfl)
    (hpl : ∀ i, (backTo pos (starEach [b] (Xf i).env)).any (·.1) = false := by intro _; rfl) : PIt Xf K true m (.Tuple elts kk tpos) (.Call (.Name "zip" p) [a, b] [] pos) (iZp f g) m2 := by
  obtain ⟨ta, pa, da⟩ := ha.ex
  obtain ⟨tb, pb, db⟩ := hb.ex
  refine ⟨RZ.iZipA K (tCons ta (tCons tb tNil)), fun i => (by have := RZ.pi_zipA (elts := elts) (kk := kk) (tpos := tpos) (p := p) (pos := pos) (hg i) (by rw [F.mg_ i]; exact hm) (pa_cons (pa i) (pa_cons (pb i) pa_nil (hs2 i)) (hs i)) (hs i) (hpl i); rw [F.kk i] at this; exact this), fun {G H σ e A ds e' R} st hf k => ?_⟩
  unfold iZp at hf
  obtain ⟨⟨d1, e1⟩, hf1, hf⟩ := Option.bind_eq_some_iff.mp hf
  obtain ⟨⟨d2, e2⟩, hf2, hf⟩ := Option.bind_eq_some_iff.mp hf
  obtain ⟨ds1, hf3, hf⟩ := Option.bind_eq_some_iff.mp hf
  cases hf
  refine da st hf1 fun G1 H1 v1 A1 B1 s1 st1 o1 nd1 => ?_
  cases o1 with
  | s q1 =>
    refine db st1 hf2 fun G2 H2 v2 A2 B2 s2 st2 o2 nd2 => ?_
    cases o2 with
    | s q2 =>
      have q1' := q1.mono s2.sg
      have hf3 : zipS d1 d2 = some ds := hf3
      unfold zipS at hf3
      split at hf3
      · cases hf3
        obtain ⟨a, xs, rfl, r1, z1, w1⟩ := dq_lst q1'
        obtain ⟨b, ys, rfl, r2, z2, w2⟩ := dq_lst q2
        refine ⟨a, b, xs, ys, rfl, .inl ⟨.inl (same_rd st2.sub r1), .inl (same_rd st2.sub r2), k _ _ _ _ (s1.seq0 s2) st2 (walkD_zipL r1 w1 r2 w2) ?_⟩⟩
        rw [zipD_len]; have := w1.1; omega
      · cases hf3
        obtain ⟨a, xs, rfl, r1, z1, w1⟩ := dq_tup q1'
        obtain ⟨b, ys, rfl, r2, z2, w2⟩ := dq_tup q2
        refine ⟨a, b, xs, ys, rfl, .inr ⟨same_seqT st2.sub r1, same_seqT st2.sub r2, k _ _ _ _ (s1.seq0 s2) st2 (walkD_zipT r1 w1 r2 w2) ?_⟩⟩
        rw [zipD_len]; have := w1.1; omega
      · cases hf3
end
end DL

namespace DL
open PySem L2 PySem.Spec

/-! ### targets -/
abbrev Gf := PyData → En → Option En
abbrev Gsf := List PyData → En → Option En
def DG (K : PySem.W.Frag) (wk : Bool) (m : List Ty) (g : TG) (sl : List Nat) (gf : Gf) (m' : List Ty) : Prop :=
  ∀ {G H : Hp} {σ : St} {e : En} {A : List Addr} {x : V} {d : PyData} {e' : En} {Q : St → Hp → Prop}, Stt K m G H σ e A → DqW wk K G x d → gf d e = some e' →
    (∀ (G' H' : Hp) (σ' : St) (A' : List Addr), Step A G H A' G' H' → Stt K m' G' H' σ' e' A' → (∀ j, j ∉ sl → σ'[j]? = σ[j]?) → σ'.length = σ.length → Q σ' H') → g x σ H Q
def DGs (K : PySem.W.Frag) (m : List Ty) (g : TGs) (sl : List Nat) (gf : Gsf) (m' : List Ty) : Prop :=
  ∀ {G H : Hp} {σ : St} {e : En} {A : List Addr} {xs : List V} {ds : List PyData} {e' : En} {Q : St → Hp → Prop}, Stt K m G H σ e A → DqA K G xs ds → gf ds e = some e' →
    (∀ (G' H' : Hp) (σ' : St) (A' : List Addr), Step A G H A' G' H' → Stt K m' G' H' σ' e' A' → (∀ j, j ∉ sl → σ'[j]? = σ[j]?) → σ'.length = σ.length → Q σ' H') → g xs σ H Q
structure PGD {ι : Type} (Xf : ι → Cx) (K : PySem.W.Frag) (wk : Bool) (m : List Ty) (tg : Expr) (sl : List Nat) (gf : Gf) (m' : List Ty) : Prop where
  ex : ∃ g : TG, (∀ i, PG (Xf i) tg g) ∧ DG K wk m g sl gf m'
structure PGDs {ι : Type} (Xf : ι → Cx) (K : PySem.W.Frag) (m : List Ty) (tgs : List Expr) (sl : List Nat) (gf : Gsf) (m' : List Ty) : Prop where
  ex : ∃ g : TGs, (∀ i, PGs (Xf i) tgs g) ∧ DGs K m g sl gf m'
def gNm (j : Nat) : Gf := fun d e => some (e.set j d)
def gsNil : Gsf := fun ds e => match ds with | [] => some e | _ => none
def gsCons (g : Gf) (r : Gsf) : Gsf := fun ds e => match ds with | d :: ds => (g d e).bind fun e' => r ds e' | [] => none
def gTp (k : Nat) (r : Gsf) : Gf := fun d e => match d with | .tuple ds => if ds.length = k then r ds e else none | _ => none

section
variable {K : PySem.W.Frag} {G H : Hp}
/-- a slot given an owned (or stable) value -/
theorem stt_set {m : List Ty} {σ : St} {e : En} {A Av : List Addr} {j : Nat} {t : Ty} {d : PyData} {v : V} (st : Stt K m G H σ e A) (hj : j < m.length) (o : Own K G H t d (some v) Av) (nd : (Av ++ A).Nodup) :
    ∃ A', Stt K (m.set j t) G H (σ.set j (some v)) (e.set j d) A' ∧ ∀ a ∈ A', a ∈ Av ++ A := by
  obtain ⟨A0, h0, B, hp⟩ := ownA_hide st.own j
  obtain ⟨A', o', p'⟩ := ownA_put h0 (by rw [List.getElem?_set_self hj]) o
  rw [List.set_set] at o'
  have inA : ∀ a ∈ A0, a ∈ A := fun a h => hp.mem_iff.mpr (List.mem_append_right _ h)
  have n := List.nodup_append.mp nd
  have nA := List.nodup_append.mp (hp.nodup_iff.mp n.2.1)
  refine ⟨A', ⟨o', p'.nodup_iff.mpr (List.nodup_append.mpr ⟨n.1, nA.2.1, fun a ha b hb z => n.2.2 a ha b (inA b hb) z⟩), st.sub⟩, fun a ha => ?_⟩
  rcases List.mem_append.mp (p'.mem_iff.mp ha) with z | z
  · exact List.mem_append_left _ z
  · exact List.mem_append_right _ (inA a z)
end
section
variable {ι : Type} {Xf : ι → Cx} {P : Program} {w : World} {K : PySem.W.Frag} {mg : Str → Option Value} {base : Heap} {n : Nat} [F : Fam Xf P w K mg base n]
variable {m m1 m2 m3 : List Ty} {pos p p2 tpos : Pos} {a b c tg : Expr} {tgs : List Expr} {elts : List Expr} {kk : Nat} {sl sl2 : List Nat} {gf : Gf} {gs : Gsf}
include F in
theorem pg_nm (j : Nat) {x : Str} (hj : j < m.length := by decide) (hi : ∀ i, (Xf i).N[j]? = some x := by intro _; rfl) (hx : ∀ i, Loc (Xf i).env.scope x := by first | (intro _; exact Or.inl rfl) | (intro _; exact Or.inr rfl))
    (hf : ∀ i, (Xf i).fn x = true ∨ (Xf i).env.scope.names.lookup x = some .local := by first | (intro _; exact Or.inl rfl) | (intro _; exact Or.inr rfl)) : PGD Xf K false m (.Name x pos) [j] (gNm j) (m.set j .s) := by
  refine ⟨gName j, fun i => pg_name (F.nd i) (hi i) (hx i) (hf i), fun {G H σ e A x d e' Q} st q hf k => ?_⟩
  cases hf
  obtain ⟨A', st', hA⟩ := stt_set st hj (.s q.strong) (Av := []) st.nd
  exact k G H _ A' ⟨Same.refl G, fun a o h _ => h, fun a ha => .inl (hA a ha), fun a h1 ⟨o, h2⟩ => by rw [h1] at h2; cases h2⟩ st' (fun i hi => by rw [List.getElem?_set_ne]; intro z; exact hi (by simp [z])) (by simp)
theorem pgs_nl : PGDs Xf K m [] [] gsNil m := by
  refine ⟨gNil, fun i => pgs_nil, fun {G H σ e A xs ds e' Q} st q hf k => ?_⟩
  unfold gsNil at hf
  cases ds with
  | nil =>
    cases hf
    exact ⟨List.length_eq_zero_iff.mp q.1, k G H σ A Step.refl st (fun _ _ => rfl) rfl⟩
  | cons _ _ => cases hf
theorem pgs_cn (h1 : PGD Xf K false m a sl gf m1) (h2 : PGDs Xf K m1 tgs sl2 gs m2) (hs : ∀ i, (assignEach (a :: tgs) (Xf i).env).map (·.snd) = assign a (Xf i).env :: (assignEach tgs (Xf i).env).map (·.snd) := by intro _; rfl) : PGDs Xf K m (a :: tgs) (sl ++ sl2) (gsCons gf gs) m2 := by
  obtain ⟨g1, p1, d1⟩ := h1.ex
  obtain ⟨g2, p2, d2⟩ := h2.ex
  refine ⟨gCons g1 g2, fun i => pgs_cons (p1 i) (p2 i) (hs i), fun {G H σ e A xs ds e' Q} st q hf k => ?_⟩
  cases ds with
  | nil => cases hf
  | cons d ds =>
    obtain ⟨e1, hf1, hf⟩ := Option.bind_eq_some_iff.mp (show (gf d e).bind _ = _ from hf)
    cases xs with
    | nil => have := q.1; simp at this
    | cons v vs =>
      refine ⟨v, vs, rfl, d1 st (.inl q.head) hf1 fun G1 H1 σ1 A1 s1 st1 k1 l1 => d2 st1 (q.tail.mono s1.sg) hf fun G2 H2 σ2 A2 s2 st2 k2 l2 => k _ _ _ _ (s1.seq0 s2) st2 (fun j hj => ?_) (l2.trans l1)⟩
      rw [k2 j (fun z => hj (List.mem_append_right _ z)), k1 j (fun z => hj (List.mem_append_left _ z))]
include F in
theorem pg_tp {wk : Bool} {k : Nat} (h : PGDs Xf K m elts sl gs m1) (hk : elts.length = k := by rfl) {kk : Nat} (hpg : ∀ i {t : TGs}, PGs (Xf i) elts t → PG (Xf i) (.Tuple elts kk tpos) (gTup (Xf i).K k t) := by intro i t h; exact pg_tup (by rfl) h) : PGD Xf K wk m (.Tuple elts kk tpos) sl (gTp k gs) m1 := by
  obtain ⟨g, p, d⟩ := h.ex
  refine ⟨gTup K k g, fun i => by have := hpg i (p i); rw [F.kk i] at this; exact this, fun {G H σ e A x dd e' Q} st q hf kont => ?_⟩
  cases dd with
  | tuple ds =>
    have hf : (if ds.length = k then gs ds e else none) = some e' := hf
    split at hf
    · rename_i hl
      obtain ⟨a, xs, rfl, r1, qq⟩ := dqW_tup q
      exact ⟨a, xs, rfl, same_seqT st.sub r1, by rw [qq.1]; exact hl, d st qq hf kont⟩
    · cases hf
  | _ => cases hf
end

/-! ### comprehensions -/
structure BI (ι : Type) where
  i : ι
  s : Shared
  H : Hp
  C : Addr
  cl : List (Str × Addr)
  fp : List Addr
def blkF {ι : Type} (Xf : ι → Cx) (scope : Scope) : BI ι → Cx := fun b => (Xf b.i).blk b.s b.H scope (compEnvC scope b.cl b.C (Xf b.i).env) b.fp
instance {ι : Type} {Xf : ι → Cx} {P : Program} {w : World} {K : PySem.W.Frag} {mg : Str → Option Value} {base : Heap} {n : Nat} [F : Fam Xf P w K mg base n] {scope : Scope} : Fam (blkF Xf scope) P w K mg base n :=
  ⟨fun b => F.prog b.i, fun b => F.w_ b.i, fun b => F.kk b.i, fun b => F.mg_ b.i, fun b => F.base_ b.i, fun b => F.room b.i, fun b => F.nd b.i⟩
instance {ι : Type} {Xf : ι → Cx} [F : FamG Xf] {scope : Scope} : FamG (blkF Xf scope) := ⟨fun b => F.gd b.i, fun b => F.calm b.i, fun b => F.hd b.i⟩

def hideM (m : List Ty) : List Nat → List Ty
  | [] => m
  | v :: vs => (hideM m vs).set v .u
def restE (e : En) (e' : En) : List Nat → En
  | [] => e'
  | v :: vs => restE e (e'.set v (e.getD v .none)) vs
def usB (m : List Ty) : List Nat → Bool
  | [] => true
  | v :: vs => (match m[v]? with | some .u => true | some .s => true | _ => false) && decide (v ∉ vs) && usB m vs
section
variable {K : PySem.W.Frag} {G H : Hp}
theorem ownA_set0 {ts : List Ty} {ds : List PyData} {vs : List (Option V)} {A : List Addr} (h : OwnA K G H ts ds vs A) {j : Nat} (hj : ts[j]? = some .u ∨ ts[j]? = some .s) {t : Ty} {d : PyData} {v : Option V} (o : Own K G H t d v []) :
    OwnA K G H (ts.set j t) (ds.set j d) (vs.set j v) A := by
  induction ts generalizing ds vs A j with
  | nil => cases h; simpa using OwnA.nil
  | cons t0 ts ih =>
    cases h with
    | @cons _ _ d0 ds v0 vs A B h1 h2 =>
      cases j with
      | zero =>
        have hA : A = [] := by
          rcases hj with hj | hj <;> (simp at hj; subst hj; cases h1; rfl)
        subst hA
        simpa using OwnA.cons o h2
      | succ j => simpa using OwnA.cons h1 (ih h2 (by simpa using hj))
theorem hideM_get {m : List Ty} {j : Nat} : ∀ {vs : List Nat}, j ∉ vs → (hideM m vs)[j]? = m[j]?
  | [], _ => rfl
  | v :: vs, h => by
    unfold hideM
    rw [List.getElem?_set_ne (fun z => h (by simp [z])), hideM_get fun z => h (List.mem_cons_of_mem _ z)]
theorem us_cons {m : List Ty} {v : Nat} {vs : List Nat} (h : usB m (v :: vs) = true) : (m[v]? = some .u ∨ m[v]? = some .s) ∧ v ∉ vs ∧ usB m vs = true := by
  unfold usB at h
  simp only [Bool.and_eq_true, decide_eq_true_eq] at h
  refine ⟨?_, h.1.2, h.2⟩
  have h1 := h.1.1
  split at h1 <;> simp_all
theorem wipeA {m : List Ty} {e : En} {σ : St} {A : List Addr} (h : OwnA K G H m e σ A) : ∀ {vs : List Nat}, usB m vs = true → OwnA K G H (hideM m vs) e (wipe σ vs) A
  | [], _ => h
  | v :: vs, us => by
    obtain ⟨h1, h2, h3⟩ := us_cons us
    have ih := wipeA h h3
    unfold hideM wipe
    have hv : (hideM m vs)[v]? = some .u ∨ (hideM m vs)[v]? = some .s := by rw [hideM_get h2]; exact h1
    have hl := ownA_len ih
    have hlt : v < e.length := by
      have : v < (hideM m vs).length := by rcases hv with z | z <;> exact (List.getElem?_eq_some_iff.mp z).1
      omega
    have := ownA_set0 (t := .u) (d := e[v]) (v := none) ih hv (.u _ _)
    rw [set_id (List.getElem?_eq_getElem hlt)] at this
    exact this
theorem unwipeA {m : List Ty} {e0 : En} {σ : St} {G0 : Hp} {A0 : List Addr} {H0 : Hp} (h0 : OwnA K G0 H0 m e0 σ A0) (sg : Same G0 G) : ∀ {vs : List Nat} {e' : En} {A : List Addr}, usB m vs = true → OwnA K G H (hideM m vs) e' (wipe σ vs) A → OwnA K G H m (restE e0 e' vs) σ A
  | [], _, _, _, h => h
  | v :: vs, e', A, us, h => by
    obtain ⟨h1, h2, h3⟩ := us_cons us
    unfold hideM wipe at h
    unfold restE
    have hv : (hideM m vs)[v]? = m[v]? := hideM_get h2
    obtain ⟨t, ht⟩ : ∃ t, m[v]? = some t := by rcases h1 with z | z <;> exact ⟨_, z⟩
    obtain ⟨d, x, Aj, B0, k1, k2, k3, _, _⟩ := ownA_take h0 ht
    have hA : Aj = [] := by
      rcases h1 with z | z <;> (rw [ht] at z; cases z; cases k3; rfl)
    subst hA
    have k3' : Own K G H t d x [] := by
      rcases h1 with z | z
      · rw [ht] at z; cases z; exact .u _ _
      · rw [ht] at z; cases z
        cases k3 with
        | s q => exact .s (q.mono sg)
    have hlv : v < (hideM m vs).length := by rw [← hv] at ht; exact (List.getElem?_eq_some_iff.mp ht).1
    have key := ownA_set0 h (j := v) (.inl (by simp [hlv])) k3'
    rw [List.set_set, set_id (by rw [hv]; exact ht), List.set_set] at key
    have ex : (wipe σ vs).set v x = wipe σ vs := by
      apply set_id
      rw [wipe_out h2]; exact k2
    rw [ex] at key
    have ed : e0.getD v .none = d := by rw [List.getD_eq_getElem?_getD, k1]; rfl
    rw [ed]
    exact unwipeA h0 sg h3 key
theorem ownA_snoc {ts : List Ty} {ds : List PyData} {vs : List (Option V)} {A : List Addr} (h : OwnA K G H ts ds vs A) {t : Ty} {d : PyData} {v : Option V} {B : List Addr} (o : Own K G H t d v B) : OwnA K G H (ts ++ [t]) (ds ++ [d]) (vs ++ [v]) (A ++ B) := by
  induction ts generalizing ds vs A with
  | nil => cases h; simpa using OwnA.cons o .nil
  | cons t0 ts ih =>
    cases h with
    | cons h1 h2 => rw [List.append_assoc]; exact .cons h1 (ih h2)
theorem wipe_in {σ : St} {j : Nat} : ∀ {vs : List Nat}, j ∈ vs → j < σ.length → (wipe σ vs)[j]? = some none
  | v :: vs, h, hl => by
    unfold wipe
    by_cases q : v = j
    · subst q; rw [List.getElem?_set_self (by rw [wipe_length]; exact hl)]
    · rw [List.getElem?_set_ne q]
      rcases List.mem_cons.mp h with z | z
      · exact absurd z.symm q
      · exact wipe_in z hl
theorem wipe_eq {σ σ2 : St} {vs sl : List Nat} (hs : ∀ j ∈ sl, j ∈ vs) (h : ∀ j, j ∉ sl → σ2[j]? = (wipe σ vs)[j]?) (hl : σ2.length = (wipe σ vs).length) : wipe σ2 vs = wipe σ vs := by
  apply List.ext_getElem?
  intro j
  rw [wipe_length] at hl
  by_cases hv : j ∈ vs
  · by_cases hj : j < σ.length
    · rw [wipe_in hv (by omega), wipe_in hv hj]
    · rw [List.getElem?_eq_none (by rw [wipe_length]; omega), List.getElem?_eq_none (by rw [wipe_length]; omega)]
  · rw [wipe_out hv, h j (fun z => hv (hs j z))]
end

def lcL (vs : List Nat) (gf : Gf) (tf : Bf) (ef : Ef) : List PyData → En → Option (List PyData × En)
  | [], e => some ([], e)
  | d :: ds, e => (gf d e).bind fun e1 => (tf e1).bind fun p => if p.1 = true then (ef p.2).bind fun q => (lcL vs gf tf ef ds (restE e q.2 vs)).bind fun r => some (q.1 :: r.1, r.2) else lcL vs gf tf ef ds (restE e p.2 vs)
def eLc (it : Lf) (vs : List Nat) (gf : Gf) (tf : Bf) (ef : Ef) : Ef := fun e => (it e).bind fun p => (lcL vs gf tf ef p.1 p.2).bind fun q => some (.list q.1, restE p.2 q.2 vs)
def bYes : Bf := fun e => some (true, e)
structure PTsD {ι : Type} (Xf : ι → Cx) (K : PySem.W.Frag) (m : List Ty) (ifs : List Expr) (f : Bf) : Prop where
  ex : ∃ tt : TT, (∀ i, PTs (Xf i) ifs tt) ∧ DT K m tt f m
theorem pts_no {ι : Type} {Xf : ι → Cx} {K : PySem.W.Frag} {m : List Ty} : PTsD Xf K m [] bYes := ⟨tYes, fun i => pts_nil, fun st hf k => by cases hf; exact k _ _ _ Step.refl st⟩
theorem pts_if {ι : Type} {Xf : ι → Cx} {K : PySem.W.Frag} {m : List Ty} {c : Expr} {f : Bf} (h : PB Xf K m c f m) : PTsD Xf K m [c] f := by
  obtain ⟨t, p, d⟩ := h.ex
  exact ⟨t, fun i => pts_one (p i), d⟩

/-- what stands while a comprehension runs -/
structure LcI (K : PySem.W.Frag) (mh : List Ty) (ty : Ty) (A1 : List Addr) (G1 H1 : Hp) (D : Addr) (ws : St) (Gc Hc : Hp) (e : En) (A Aa : List Addr) (acc : List V) (da : List PyData) : Prop where
  step : Step A1 G1 H1 (D :: (Aa ++ A)) Gc Hc
  st : Stt K mh Gc Hc ws e A
  atD : Hc D = some (.lst acc)
  gD : Gc D = none
  own : OwnA K Gc Hc (List.replicate da.length ty) da (acc.map some) Aa
  nd : (D :: (Aa ++ A)).Nodup
section
variable {K : PySem.W.Frag} {mh m2 : List Ty} {ty : Ty} {A1 : List Addr} {G1 H1 : Hp} {D : Addr} {ws : St}
theorem LcI.move {Gc Hc : Hp} {e : En} {A Aa : List Addr} {acc : List V} {da : List PyData} (I : LcI K mh ty A1 G1 H1 D ws Gc Hc e A Aa acc da) {B : List Addr} {G2 H2 : Hp} (s : Step A Gc Hc B G2 H2) (ndB : B.Nodup) :
    Step A1 G1 H1 (D :: (Aa ++ B)) G2 H2 ∧ (D :: (Aa ++ B)).Nodup ∧ H2 D = some (.lst acc) ∧ G2 D = none ∧ OwnA K G2 H2 (List.replicate da.length ty) da (acc.map some) Aa := by
  have o1 : ∀ a ∈ D :: Aa, Gc a = none ∧ ∃ o, Hc a = some o := fun a ha => by
    rcases List.mem_cons.mp ha with rfl | ha
    · exact ⟨I.gD, _, I.atD⟩
    · exact ownA_at I.own a ha
  obtain ⟨s3, nd3, hg, hh⟩ := Step.seq (Av := D :: Aa) I.step o1 I.nd s ndB
  exact ⟨s3, nd3, by rw [hh D (List.mem_cons_self ..)]; exact I.atD, hg D (List.mem_cons_self ..), ownA_fr I.own s.sg (fun a ha => hg a (List.mem_cons_of_mem _ ha)) fun a ha => hh a (List.mem_cons_of_mem _ ha)⟩
end
section
variable {ι : Type} {Xf : ι → Cx} {P : Program} {w : World} {K : PySem.W.Frag} {mg : Str → Option Value} {base : Heap} {n : Nat} [F : Fam Xf P w K mg base n]
variable {m m1 m2 m3 : List Ty} {pos p p2 tpos : Pos} {elt iter tg : Expr} {ifs : List Expr} {scope : Scope} {own : List (Str × Nat)} {sl : List Nat} {gf : Gf} {it : Lf} {tf : Bf} {ef : Ef} {ty : Ty}
theorem DE.lc {wk : Bool} {wi : TI} {g : TG} {tt : TT} {te : TE} {vs : List Nat} (hi : DI K wk m wi it m1) (hg : DG K wk (hideM m1 vs) g sl gf m2) (ht : DT K m2 tt tf m2) (he : DE K m2 te ty ef m2) (us : usB m1 vs = true) (hs : ∀ j ∈ sl, j ∈ vs) (le : LeM m2 (hideM m1 vs)) :
    DE K m (tLc wi g tt te vs) (.l ty) (eLc it vs gf tf ef) m1 := by
  intro G H σ e A d e' Q st hf k
  unfold eLc at hf
  obtain ⟨⟨ds, e1⟩, hf1, hf⟩ := Option.bind_eq_some_iff.mp hf
  obtain ⟨⟨rs, ef1⟩, hf2, hf⟩ := Option.bind_eq_some_iff.mp hf
  cases hf
  refine hi st hf1 fun G1 H1 A1 J s1 st1 wk hz => ?_
  intro D hD
  have own1 := wipeA st1.own us
  have st1' : Stt K (hideM m1 vs) G1 H1 (wipe σ vs) e1 A1 := ⟨own1, st1.nd, st1.sub⟩
  obtain ⟨s2, st2, nd2, gD⟩ := new_o (o := .lst []) (B := []) st1' hD
  -- the word
  let T := fun (i : Nat) (Hc : Hp) => ∃ Gc ec A' Aa acc da r, LcI K (hideM m1 vs) ty A1 G1 H1 D (wipe σ vs) Gc Hc ec A' Aa acc da ∧ da.length ≤ i ∧ lcL vs gf tf ef (ds.drop i) ec = some (r, ef1) ∧ rs = da ++ r
  refine ⟨fun i mm Hc => mm = ds.length - i ∧ i ≤ ds.length ∧ T i Hc, ⟨ds.length, by omega, Nat.zero_le _, G1, e1, A1, [], [], [], rs, ⟨s2, st2, upd_same, gD, .nil, nd2⟩, Nat.le_refl _, hf2, rfl⟩, ?_⟩
  rintro i mm Hc ⟨rfl, hle, Gc, ec, A', Aa, acc, da, r, I, hda, hl, hrs⟩
  have sub1 : Same G1 Hc := I.step.sg.trans I.st.sub
  by_cases hi : i < ds.length
  · refine .inr ⟨wk.goes i Hc hi sub1, fun Hn => i < ds.length ∧ T (i + 1) Hn, fun Hn hn => ⟨ds.length - (i + 1), by omega, rfl, by omega, hn.2⟩, fun x Hy hy => ?_⟩
    obtain ⟨Gy, sy, sty, sgy, qy⟩ := wk.yields hi I.step.sg I.st hy
    have hd : ds.drop i = ds[i] :: ds.drop (i + 1) := List.drop_eq_getElem_cons hi
    rw [hd] at hl
    unfold lcL at hl
    obtain ⟨e2, hl1, hl⟩ := Option.bind_eq_some_iff.mp hl
    obtain ⟨⟨b, e3⟩, hl2, hl⟩ := Option.bind_eq_some_iff.mp hl
    refine hg sty (qy _ (List.getElem?_eq_getElem hi)) hl1 fun G3 H3 σ3 A3 s3 st3 k3 l3 => ⟨wipe_eq hs k3 l3, ?_⟩
    have wσ := wipe_eq hs k3 l3
    have usr : usB (hideM m1 vs) vs = true → True := fun _ => trivial
    refine ht st3 hl2 fun G4 H4 A4 s4 st4 => ?_
    have s34 := (sy.seq0 s3).seq0 s4
    -- the turn's end: the mask and the slots of the next turn
    have next : ∀ (G5 H5 : Hp) (A5 : List Addr) (e5 : En), Stt K m2 G5 H5 σ3 e5 A5 → ∃ G6 A6, Step A5 G5 H5 A6 G6 H5 ∧ Stt K (hideM m1 vs) G6 H5 (wipe σ vs) (restE ec e5 vs) A6 := fun G5 H5 A5 e5 st5 => by
      obtain ⟨G6, A6, s6, st6⟩ := stt_le le st5
      refine ⟨G6, A6, s6, ⟨?_, st6.nd, st6.sub⟩⟩
      have hidem : ∀ (us : List Nat) (e' : En) (σ' : St) {A : List Addr} {H : Hp} {G : Hp} {mm : List Ty}, OwnA K G H mm e' σ' A → (∀ v ∈ us, mm[v]? = some .u) → OwnA K G H mm (restE ec e' us) (wipe σ' us) A := by
        intro us
        induction us with
        | nil => intro e' σ' A H G mm h _; exact h
        | cons v us ih =>
          intro e' σ' A H G mm h hu
          unfold restE wipe
          have hv := hu v (List.mem_cons_self ..)
          have a := ownA_set0 (t := .u) (d := ec.getD v .none) (v := none) h (.inl hv) (.u _ _)
          rw [set_id hv] at a
          have b := ih _ _ a fun x hx => hu x (List.mem_cons_of_mem _ hx)
          -- wiping v first or last
          have c : wipe (σ'.set v none) us = (wipe σ' us).set v none := by
            clear ih a b hv hu h
            induction us with
            | nil => rfl
            | cons u us ihu =>
              unfold wipe
              rw [ihu]
              by_cases q : u = v
              · subst q; rfl
              · rw [List.set_comm _ _ (fun z => q z.symm)]
          rw [c] at b; exact b
      have hu : ∀ v ∈ vs, (hideM m1 vs)[v]? = some .u := by
        have aux : ∀ us : List Nat, usB m1 us = true → ∀ v ∈ us, (hideM m1 us)[v]? = some .u := by
          intro us
          induction us with
          | nil => intro _ v h; cases h
          | cons u us ih =>
            intro hus v hv
            obtain ⟨h1, h2, h3⟩ := us_cons hus
            unfold hideM
            by_cases q : u = v
            · subst q
              have : u < (hideM m1 us).length := by
                rw [← hideM_get (m := m1) h2] at h1
                rcases h1 with z | z <;> exact (List.getElem?_eq_some_iff.mp z).1
              simp [this]
            · rw [List.getElem?_set_ne q]
              rcases List.mem_cons.mp hv with z | z
              · exact absurd z.symm q
              · exact ih h3 v z
        exact aux vs us
      have := hidem vs e5 σ3 st6.own hu
      rw [wσ] at this
      exact this
    cases b with
    | true =>
      rw [if_pos rfl] at hl ⊢
      obtain ⟨⟨dy, e5⟩, hl3, hl⟩ := Option.bind_eq_some_iff.mp hl
      obtain ⟨⟨r', ef'⟩, hl4, hl⟩ := Option.bind_eq_some_iff.mp hl
      cases hl
      refine he st4 hl3 fun G5 H5 y Ay A5 s5 st5 o5 nd5 => ?_
      obtain ⟨G6, A6, s6, st6⟩ := next G5 H5 A5 e5 st5
      obtain ⟨s56, nd56, hg6, hh6⟩ := s5.seq (own_at o5) nd5 s6 st6.nd
      have o6 : Own K G6 H5 ty dy (some y) Ay := own_fr o5 s6.sg hg6 fun a ha => rfl
      obtain ⟨s7, nd7, atD, gD7, own7⟩ := I.move (s34.seq0 s56) nd56
      have hacc : acc.length = da.length := by have := (ownA_len I.own).2; simpa using this
      have hz' : acc.length < sizeLine := by
        omega
      refine ⟨acc, atD, hz', hi, G6, restE ec e5 vs, A6, Aa ++ Ay, acc ++ [y], da ++ [dy], r', ?_, by simp; omega, hl4, by rw [hrs]; simp⟩
      have nD : ∀ a ∈ Aa ++ (Ay ++ A6), a ≠ D := fun a ha z => (List.nodup_cons.mp nd7).1 (z ▸ ha)
      have frD : ∀ a, a ≠ D → upd H5 D (.lst (acc ++ [y])) a = H5 a := fun a ha => upd_ne ha
      refine ⟨⟨s7.sg, fun a o h ha => ?_, fun a ha => s7.own a (by simpa [List.append_assoc] using ha), s7.gnew⟩, ⟨ownA_fr st6.own (Same.refl _) (fun a ha => (ownA_at st6.own a ha).1) fun a ha => frD a (nD a (by simp [ha])), st6.nd, fun b x hx => ?_⟩, upd_same, gD7, ?_, by simpa [List.append_assoc] using nd7⟩
      · rw [frD a (ne_of_none h hD)]; exact s7.fr a o h ha
      · rw [frD b (ne_of_none hx gD7)]; exact st6.sub b x hx
      · have a1 : OwnA K G6 (upd H5 D (.lst (acc ++ [y]))) (List.replicate da.length ty) da (acc.map some) Aa := ownA_fr own7 (Same.refl _) (fun a ha => (ownA_at own7 a ha).1) fun a ha => frD a (nD a (by simp [ha]))
        have a2 : Own K G6 (upd H5 D (.lst (acc ++ [y]))) ty dy (some y) Ay := own_fr o6 (Same.refl _) hg6 fun a ha => frD a (nD a (by simp [ha]))
        have a3 := ownA_snoc a1 a2
        rw [List.length_append, List.length_singleton, List.replicate_succ', List.map_append]
        exact a3
    | false =>
      rw [if_neg (by simp)] at hl ⊢
      obtain ⟨G6, A6, s6, st6⟩ := next G4 H4 A4 e3 st4
      obtain ⟨s7, nd7, atD, gD7, own7⟩ := I.move (s34.seq0 s6) st6.nd
      exact ⟨hi, G6, restE ec e3 vs, A6, Aa, acc, da, r, ⟨s7, st6, atD, gD7, own7, nd7⟩, by omega, hl, hrs⟩
  · have hie : i = ds.length := by omega
    subst hie
    refine .inl ⟨wk.stops Hc sub1, ?_⟩
    rw [List.drop_length] at hl
    cases hl
    rw [List.append_nil] at hrs
    subst hrs
    have un := unwipeA (e' := ef1) st1.own I.step.sg us I.st.own
    have nd := List.nodup_cons.mp I.nd
    refine k Gc Hc (.ref D) (D :: Aa) A' (s1.seq0 ⟨I.step.sg, I.step.fr, I.step.own, I.step.gnew⟩) ⟨un, I.st.nd, I.st.sub⟩ (.l I.gD I.atD ?_ I.own) I.nd
    have hacc := (ownA_len I.own).2
    rw [List.length_map] at hacc
    omega
include F in
theorem pd_lc [FG : FamG Xf] {wk : Bool} (own : List (Str × Nat)) (hi : PIt Xf K wk m tg iter it m1) (hg : PGD (blkF Xf scope) K wk (hideM m1 (own.map (·.2))) tg sl gf m2) (ht : PTsD (blkF Xf scope) K m2 ifs tf) (he : PD (blkF Xf scope) K m2 elt ty ef m2)
    (ok : ∀ i, BlkOk (Xf i).N (Xf i).env.scope scope own := by intro _; exact blkOk_by (by rfl)) (us : usB m1 (own.map (·.2)) = true := by rfl) (hs : ∀ j ∈ sl, j ∈ own.map (·.2) := by decide) (le : LeM m2 (hideM m1 (own.map (·.2))) := by repeat (first | exact .nil | refine .cons (by first | exact .rfl _ | exact .u _) ?_))
    (hf : ∀ i x, foldedSetIterable iter (Xf i).env x = pure x := by intro _ _; rfl) : PD Xf K m (.ListComp elt [⟨tg, iter, ifs, 0⟩] scope pos) (.l ty) (eLc it (own.map (·.2)) gf tf ef) m1 := by
  obtain ⟨wi, pi, di⟩ := hi.ex
  obtain ⟨g, pg, dg⟩ := hg.ex
  obtain ⟨tt, pt, dt⟩ := ht.ex
  obtain ⟨te, pe, de⟩ := he.ex
  exact ⟨_, fun i => pe_lc (FG.calm i) (F.nd i) (pi i) (ok i) (fun s H C cl fp => pg ⟨i, s, H, C, cl, fp⟩) (fun s H C cl fp => pt ⟨i, s, H, C, cl, fp⟩) (fun s H C cl fp => pe ⟨i, s, H, C, cl, fp⟩) (hf i), DE.lc di dg dt de us hs le⟩
end
end DL

namespace DL
open PySem L2 PySem.Spec

/-! ### quiet readings: the heap only grows, what is owned is looked at -/
abbrev Gq := En → Option PyData
def DQv (K : PySem.W.Frag) (m : List Ty) (te : TE) (g : Gq) : Prop :=
  ∀ {G H : Hp} {σ : St} {e : En} {A : List Addr} {d : PyData} {Q : VK}, Stt K m G H σ e A → g e = some d → (∀ (H' : Hp) (v : V), Same H H' → Dq K H' v d → Q v H') → te σ H Q
structure PQ {ι : Type} (Xf : ι → Cx) (K : PySem.W.Frag) (m : List Ty) (e : Expr) (g : Gq) : Prop where
  ex : ∃ te : TE, (∀ i, PE (Xf i) e te) ∧ DQv K m te g
def q1 (gg : PyData → Option PyData) (a : Gq) : Gq := fun e => (a e).bind gg
def q2 (gg : PyData → PyData → Option PyData) (a b : Gq) : Gq := fun e => (a e).bind fun x => (b e).bind fun y => gg x y
def qVar (j : Nat) : Gq := fun e => some (e.getD j .none)
def qC (d : PyData) : Gq := fun _ => some d
section
variable {K : PySem.W.Frag} {G H H' : Hp} {m : List Ty} {σ : St} {e : En} {A : List Addr}
theorem stt_grow (st : Stt K m G H σ e A) (s : Same H H') : Step A G H A G H' ∧ Stt K m G H' σ e A :=
  ⟨⟨Same.refl G, fun a o h _ => s a o h, fun a h => .inl h, fun a h1 ⟨o, h2⟩ => by rw [h1] at h2; cases h2⟩,
    ⟨ownA_fr st.own (Same.refl G) (fun a ha => (ownA_at st.own a ha).1) fun a ha => by obtain ⟨o, h⟩ := (ownA_at st.own a ha).2; rw [h, s a o h], st.nd, st.sub.trans s⟩⟩
theorem stt0 (K : PySem.W.Frag) (H : Hp) : Stt K [] H H [] [] [] := ⟨.nil, List.nodup_nil, Same.refl H⟩
theorem own_snap {t : Ty} {d : PyData} {v : Option V} {A : List Addr} (o : Own K G H t d v A) (s : Same G H) (hn : nou t = true) : ∃ x, v = some x ∧ Dq K H x d := own_frz o s (fun _ _ => rfl) hn
theorem D2.q {r : R2} {ty : Ty} {gg : PyData → PyData → Option PyData} (h : D2 K r ty gg) (hn : nou ty = true) {x y : V} {dx dy d : PyData} {Q : VK} (hx : Dq K H x dx) (hy : Dq K H y dy) (hg : gg dx dy = some d) (k : ∀ (H' : Hp) (v : V), Same H H' → Dq K H' v d → Q v H') : r x y H Q :=
  h (stt0 K H) hx hy hg fun G' H' v Av A' s st o _ => by
    obtain ⟨w, hw, q⟩ := own_snap o st.sub hn
    cases hw
    exact k H' v (fun a o ha => s.fr a o ha (by simp)) q
theorem D1.q {r : V → Hp → VK → Prop} {ty : Ty} {gg : PyData → Option PyData} (h : D1 K r ty gg) (hn : nou ty = true) {x : V} {dx d : PyData} {Q : VK} (hx : Dq K H x dx) (hg : gg dx = some d) (k : ∀ (H' : Hp) (v : V), Same H H' → Dq K H' v d → Q v H') : r x H Q :=
  h (stt0 K H) hx hg fun G' H' v Av A' s st o _ => by
    obtain ⟨w, hw, q⟩ := own_snap o st.sub hn
    cases hw
    exact k H' v (fun a o ha => s.fr a o ha (by simp)) q
theorem DQv.bin {ta tb : TE} {r : R2} {ty : Ty} {gg : PyData → PyData → Option PyData} {f g : Gq} (ha : DQv K m ta f) (hb : DQv K m tb g) (hr : D2 K r ty gg) (hn : nou ty = true) : DQv K m (tOp r ta tb) (q2 gg f g) := by
  intro G H σ e A d Q st hf k
  obtain ⟨x, h1, hf⟩ := Option.bind_eq_some_iff.mp hf
  obtain ⟨y, h2, hf⟩ := Option.bind_eq_some_iff.mp hf
  refine ha st h1 fun H1 v s1 qx => hb (stt_grow st s1).2 h2 fun H2 w s2 qy => hr.q hn (qx.mono s2) qy hf fun H3 z s3 qz => k H3 z ((s1.trans s2).trans s3) qz
end
section
variable {ι : Type} {Xf : ι → Cx} {P : Program} {w : World} {K : PySem.W.Frag} {mg : Str → Option Value} {base : Heap} {n : Nat} [F : Fam Xf P w K mg base n]
variable {m m1 m2 m3 : List Ty} {pos p p2 apos cpos : Pos} {a b c : Expr} {f g h : Gq} {ty t : Ty} {ts : List Ty}
theorem pq_var (j : Nat) {t : Ty} {x : Str} (hm : m[j]? = some t := by rfl) (hn : nou t = true := by rfl) (hN : ∀ i, (Xf i).N[j]? = some x := by intro _; rfl)
    (hv : ∀ i, Vis (Xf i).env.scope x := by first | (intro _; exact Or.inl rfl) | (intro _; exact Or.inr (Or.inl rfl)) | (intro _; exact Or.inr (Or.inr rfl))) (hd : (x == ("__debug__" : Str)) = false := by decide)
    (hcd : (x == ("__classdict__" : Str)) = false := by decide) : PQ Xf K m (.Name x pos) (qVar j) := by
  refine ⟨tVar j, fun i => pe_var (hN i) (hv i) hd hcd, fun {G H σ e A d Q} st hf k => ?_⟩
  obtain ⟨d', v, Aj, A0, h1, h2, h3, _, _⟩ := ownA_take st.own hm
  obtain ⟨x', hx, q⟩ := own_snap h3 st.sub hn
  subst hx
  cases hf
  rw [List.getD_eq_getElem?_getD, h1] at k
  exact ⟨x', h2, k H x' (Same.refl H) q⟩
theorem pq_int {i : Int} {j} : PQ Xf K m (.Constant (.int i) j pos) (qC (.int i)) := ⟨_, fun _ => pe_int, fun {G H σ e A d Q} st hf k => by cases hf; exact k H _ (Same.refl H) (.int i)⟩
theorem pq_bool {i : Bool} {j} : PQ Xf K m (.Constant (.bool i) j pos) (qC (.bool i)) := ⟨_, fun _ => pe_bl, fun {G H σ e A d Q} st hf k => by cases hf; exact k H _ (Same.refl H) (.bl i)⟩
theorem pq_none {j} : PQ Xf K m (.Constant .none j pos) (qC .none) := ⟨_, fun _ => pe_non, fun {G H σ e A d Q} st hf k => by cases hf; exact k H _ (Same.refl H) .non⟩
theorem pq_str {x : Str} {j} (hx : x.length ≤ sizeLine := by decide +kernel) : PQ Xf K m (.Constant (.str x) j pos) (qC (.str x)) := ⟨_, fun _ => pe_str, fun {G H σ e A d Q} st hf k => by cases hf; exact k H _ (Same.refl H) (.str x hx)⟩
/-- the new empty list, looked at only -/
theorem pq_nil : PQ Xf K m (.List [] pos) (qC (.list [])) := ⟨_, fun _ => pe_lst pa_nil, fun {G H σ e A d Q} st hf k => by
  cases hf
  refine ⟨Nat.zero_le _, fun p hp => k _ _ (fun b x hx => by rw [upd_ne (ne_of_none hx hp)]; exact hx) (.lst (.inl upd_same) rfl (Nat.zero_le _) fun i v d h _ => by simp at h)⟩⟩
theorem pq_bin {op : Operator} {gg : PyData → PyData → Option PyData} (ho : Op2 Xf K (binaryOp op) ty gg) (ha : PQ Xf K m a f) (hb : PQ Xf K m b g) (hn : nou ty = true := by rfl) : PQ Xf K m (.BinOp a op b pos) (q2 gg f g) := by
  obtain ⟨r, hr, dr⟩ := ho.ex
  obtain ⟨ta, pa, da⟩ := ha.ex
  obtain ⟨tb, pb, db⟩ := hb.ex
  exact ⟨_, fun i => pe_op (hr i) (pa i) (pb i), DQv.bin da db dr hn⟩
theorem pq_cmp {op : CmpOp} {gg : PyData → PyData → Option PyData} (ho : Op2 Xf K (compareOp op) ty gg) (ha : PQ Xf K m a f) (hb : PQ Xf K m b g) (hm : behindInMarks op b = false := by first | exact nomark _ | rfl) (hn : nou ty = true := by rfl) : PQ Xf K m (.Compare a [op] [b] pos) (q2 gg f g) := by
  obtain ⟨r, hr, dr⟩ := ho.ex
  obtain ⟨ta, pa, da⟩ := ha.ex
  obtain ⟨tb, pb, db⟩ := hb.ex
  exact ⟨_, fun i => pe_cmpR (hr i) (pa i) (pb i) hm, DQv.bin da db dr hn⟩
theorem pq_ix {gg : PyData → PyData → Option PyData} (ho : Ix2 Xf K ty gg) (ha : PQ Xf K m a f) (hb : PQ Xf K m b g) (hs : PlainIx b := by exact fun _ _ => rfl) (hn : nou ty = true := by rfl) : PQ Xf K m (.Subscript a b pos) (q2 gg f g) := by
  obtain ⟨r, hr, dr⟩ := ho.ex
  obtain ⟨ta, pa, da⟩ := ha.ex
  obtain ⟨tb, pb, db⟩ := hb.ex
  exact ⟨_, fun i => pe_ix (hr i) (pa i) (pb i) hs, DQv.bin da db dr hn⟩
/-- f(a), a built-in -/
theorem DQv.un {r : V → Hp → VK → Prop} {ta : TE} {gg : PyData → Option PyData} (da : DQv K m ta f) (dr : D1 K r ty gg) (hn : nou ty = true) : DQv K m (fun σ H Q => ta σ H fun x H1 => r x H1 Q) (q1 gg f) := by
  intro G H σ e A d Q st hf k
  obtain ⟨x, h1, hf⟩ := Option.bind_eq_some_iff.mp hf
  exact da st h1 fun H1 v s1 qx => dr.q hn qx hf fun H2 z s2 qz => k H2 z (s1.trans s2) qz
include F in
theorem pq_b1 {x : Str} {id : String} {gg : PyData → Option PyData} (hc : Cl1 Xf K (.builtin id) ty gg) (hm : mg x = none) (hv : bootBuiltins x = some (.builtin id)) (ha : PQ Xf K m a f) (hy : nou ty = true := by rfl) (hg : ∀ i, Gl (Xf i) x := by intro _; rfl)
    (hn : x ≠ "__name__" := by decide) (hdb : (x == ("__debug__" : Str)) = false := by decide) (he : ∀ i, starEach [a] (Xf i).env = (false, eval a (Xf i).env) :: starEach [] (Xf i).env := by intro _; rfl) (hpl : ∀ i, (backTo pos (starEach [] (Xf i).env)).any (·.1) = false := by intro _; rfl) : PQ Xf K m (.Call (.Name x p) [a] [] pos) (q1 gg f) := by
  obtain ⟨r, hr, dr⟩ := hc.ex
  obtain ⟨ta, pa, da⟩ := ha.ex
  exact ⟨_, fun i => pe_callB (hr i) (hg i) (by rw [F.mg_ i]; exact hm) hv (pa_cons (pa i) pa_nil (he i)) hn hdb (he i) (hpl i), DQv.un da dr hy⟩

/-! ### quiet readings taken up -/
def scD : PyData → Bool
  | .none | .bool _ | .int _ | .str _ => true
  | _ => false
theorem sc_any {K : PySem.W.Frag} {G H : Hp} {v : V} {d : PyData} (q : Dq K H v d) (h : scD d = true) : Dq K G v d := by
  cases q with
  | non => exact .non
  | bl b => exact .bl b
  | int i => exact .int i
  | str x hx => exact .str x hx
  | lst => cases h
  | tup => cases h
  | dic => cases h
def eQ (g : Gq) : Ef := fun e => (g e).bind fun d => if scD d = true then some (d, e) else none
def bQ (g : Gq) : Bf := fun e => (g e).bind fun d => (gTruth d).map fun b => (b, e)
theorem pd_q (ha : PQ Xf K m a f) : PD Xf K m a .s (eQ f) m := by
  obtain ⟨ta, pa, da⟩ := ha.ex
  refine ⟨ta, pa, fun {G H σ e A d e' Q} st hf k => ?_⟩
  obtain ⟨x, h1, hf⟩ := Option.bind_eq_some_iff.mp hf
  obtain ⟨h2, h3⟩ := ite_some hf
  cases h3
  exact da st h1 fun H1 v s1 q => k G H1 v [] A (stt_grow st s1).1 (stt_grow st s1).2 (.s (sc_any q h2)) st.nd
include F in
theorem pb_q (ha : PQ Xf K m a f) (he : ∀ i whole, isTrue a (Xf i).env whole = (do let v ← whole; standAt a.pos; holding [v] (truthy v)) := by intro _ _; rfl) : PB Xf K m a (bQ f) m := by
  obtain ⟨ta, pa, da⟩ := ha.ex
  refine ⟨fun σ H Q => ta σ H fun x H' => ∃ k, TruV K x H' k ∧ Q k H', fun i => ?_, fun {G H σ e A b e' Q} st hf k => ?_⟩
  · have := pt_truth (X := Xf i) (pa i) (he i)
    rw [F.kk i] at this
    exact this
  · unfold bQ at hf
    obtain ⟨x, h1, hf⟩ := Option.bind_eq_some_iff.mp hf
    obtain ⟨b1, h2, h3⟩ := Option.map_eq_some_iff.mp hf
    cases h3
    exact da st h1 fun H1 v s1 q => ⟨_, truV_of q (Same.refl H1) h2, k _ _ _ (stt_grow st s1).1 (stt_grow st s1).2⟩
def bQT (g : Gq) : Bf := fun e => (g e).bind fun d => match d with | .bool b => some (b, e) | _ => none
theorem pb_qcmp {op : CmpOp} {gg : PyData → PyData → Option PyData} (ho : Op2 Xf K (compareOp op) .s gg) (ha : PQ Xf K m a f) (hb : PQ Xf K m b g) (hm : behindInMarks op b = false := by first | exact nomark _ | rfl) : PB Xf K m (.Compare a [op] [b] pos) (bQT (q2 gg f g)) m := by
  obtain ⟨r, hr, dr⟩ := ho.ex
  obtain ⟨ta, pa, da⟩ := ha.ex
  obtain ⟨tb, pb, db⟩ := hb.ex
  refine ⟨_, fun i => pt_cmpR (hr i) (pa i) (pb i) hm, fun {G H σ e A b e' Q} st hf k => ?_⟩
  obtain ⟨x, h1, hf⟩ := Option.bind_eq_some_iff.mp hf
  refine DQv.bin da db dr rfl st h1 fun H1 v s1 q => ?_
  cases q with
  | bl b1 => cases hf; exact ⟨_, rfl, k _ _ _ (stt_grow st s1).1 (stt_grow st s1).2⟩
  | _ => cases hf
end

/-! ### pure stable values: nothing is given up for them -/
def DPv (K : PySem.W.Frag) (m : List Ty) (te : TE) (g : Gq) : Prop :=
  ∀ {G H : Hp} {σ : St} {e : En} {A : List Addr} {d : PyData} {Q : VK}, Stt K m G H σ e A → g e = some d → (∀ (H' : Hp) (v : V), Same H H' → Dq K G v d → Q v H') → te σ H Q
structure PV {ι : Type} (Xf : ι → Cx) (K : PySem.W.Frag) (m : List Ty) (e : Expr) (g : Gq) : Prop where
  ex : ∃ te : TE, (∀ i, PE (Xf i) e te) ∧ DPv K m te g
def qS (g : Gq) : Gq := fun e => (g e).bind fun d => if scD d = true then some d else none
section
variable {ι : Type} {Xf : ι → Cx} {P : Program} {w : World} {K : PySem.W.Frag} {mg : Str → Option Value} {base : Heap} {n : Nat} [F : Fam Xf P w K mg base n]
variable {m m1 m2 m3 : List Ty} {pos p p2 apos cpos : Pos} {a b c : Expr} {f g h : Gq} {ty t : Ty} {ts : List Ty}
theorem pv_var (j : Nat) {x : Str} (hm : m[j]? = some .s := by rfl) (hN : ∀ i, (Xf i).N[j]? = some x := by intro _; rfl)
    (hv : ∀ i, Vis (Xf i).env.scope x := by first | (intro _; exact Or.inl rfl) | (intro _; exact Or.inr (Or.inl rfl)) | (intro _; exact Or.inr (Or.inr rfl))) (hd : (x == ("__debug__" : Str)) = false := by decide)
    (hcd : (x == ("__classdict__" : Str)) = false := by decide) : PV Xf K m (.Name x pos) (qVar j) := by
  refine ⟨tVar j, fun i => pe_var (hN i) (hv i) hd hcd, fun {G H σ e A d Q} st hf k => ?_⟩
  obtain ⟨d', v, h1, h2, h3⟩ := ownA_getS st.own hm
  cases hf
  rw [List.getD_eq_getElem?_getD, h1] at k
  exact ⟨v, h2, k H v (Same.refl H) h3⟩
theorem pv_q (ha : PQ Xf K m a f) : PV Xf K m a (qS f) := by
  obtain ⟨ta, pa, da⟩ := ha.ex
  refine ⟨ta, pa, fun {G H σ e A d Q} st hf k => ?_⟩
  obtain ⟨x, h1, hf⟩ := Option.bind_eq_some_iff.mp hf
  obtain ⟨h2, h3⟩ := ite_some hf
  cases h3
  exact da st h1 fun H1 v s1 q => k H1 v s1 (sc_any q h2)
/-- a variable's list handed on -/
theorem pd_mov (j : Nat) {x : Str} (hm : m[j]? = some t := by rfl) (hu : t ≠ .u := by exact fun z => nomatch z) (hN : ∀ i, (Xf i).N[j]? = some x := by intro _; rfl)
    (hv : ∀ i, Vis (Xf i).env.scope x := by first | (intro _; exact Or.inl rfl) | (intro _; exact Or.inr (Or.inl rfl)) | (intro _; exact Or.inr (Or.inr rfl))) (hd : (x == ("__debug__" : Str)) = false := by decide)
    (hcd : (x == ("__classdict__" : Str)) = false := by decide) : PD Xf K m (.Name x pos) t (eVar j) (m.set j .u) := by
  refine ⟨tVar j, fun i => pe_var (hN i) (hv i) hd hcd, fun {G H σ e A d e' Q} st hf k => ?_⟩
  obtain ⟨d', v, Aj, A0, h1, h2, h3, h4, hp⟩ := ownA_take st.own hm
  cases hf
  rw [List.getD_eq_getElem?_getD, h1] at k
  have nd := hp.nodup_iff.mp st.nd
  have hv : ∃ x, v = some x := by cases h3 with | u => exact absurd rfl hu | s => exact ⟨_, rfl⟩ | q => exact ⟨_, rfl⟩ | d => exact ⟨_, rfl⟩ | l => exact ⟨_, rfl⟩ | r => exact ⟨_, rfl⟩ | e => exact ⟨_, rfl⟩ | k => exact ⟨_, rfl⟩ | a => exact ⟨_, rfl⟩
  obtain ⟨x, rfl⟩ := hv
  exact ⟨x, h2, k G H x Aj A0 ⟨Same.refl G, fun a o h _ => h, fun a h => .inl (hp.mem_iff.mpr h), fun a h1 ⟨o, h2⟩ => by rw [h1] at h2; cases h2⟩ ⟨h4, (List.nodup_append.mp nd).2.1, st.sub⟩ h3 nd⟩
end

/-! ### places: an owned list within a variable -/
abbrev Pf := En → PyData → En
def DPl (K : PySem.W.Frag) (m : List Ty) (te : TE) (ty : Ty) (get : Gq) (put : Pf) : Prop :=
  ∀ {G H : Hp} {σ : St} {e : En} {A : List Addr} {d : PyData}, Stt K m G H σ e A → get e = some d → ∃ (a : Addr) (Ad Ar : List Addr), A.Perm (Ad ++ Ar) ∧ Own K G H ty d (some (.ref a)) Ad ∧
    (∀ {Q : VK}, (∀ H', Same H H' → Q (.ref a) H') → te σ H Q) ∧
    ∀ {G' H' : Hp} {d' : PyData} {Ad' : List Addr}, Same G G' → Own K G' H' ty d' (some (.ref a)) Ad' → (∀ b ∈ Ar, H' b = H b ∧ G' b = none) → ∃ A', OwnA K G' H' m (put e d') σ A' ∧ A'.Perm (Ad' ++ Ar)
structure PPl {ι : Type} (Xf : ι → Cx) (K : PySem.W.Frag) (m : List Ty) (e : Expr) (ty : Ty) (get : Gq) (put : Pf) : Prop where
  ex : ∃ te : TE, (∀ i, PE (Xf i) e te) ∧ DPl K m te ty get put
def lstTy : Ty → Bool
  | .l _ => true
  | .r _ => true
  | .d => true
  | _ => false
def pVar (j : Nat) : Pf := fun e d => e.set j d
def itemD (d : PyData) (i : PyData) : Option PyData := match d, i with
  | .list ds, .int k => atI ds k
  | _, _ => none
def setD (d : PyData) (i : PyData) (x : PyData) : PyData := match d, i with
  | .list ds, .int k => match ixN ds.length k with
    | some j => .list (ds.set j x)
    | none => d
  | _, _ => d
def gSub1 (g gi : Gq) : Gq := fun e => (g e).bind fun d => (gi e).bind fun i => itemD d i
def pSub1 (g gi : Gq) (pt : Pf) : Pf := fun e x => pt e (setD ((g e).getD .none) ((gi e).getD .none) x)
section
variable {ι : Type} {Xf : ι → Cx} {P : Program} {w : World} {K : PySem.W.Frag} {mg : Str → Option Value} {base : Heap} {n : Nat} [F : Fam Xf P w K mg base n]
variable {m m1 m2 m3 : List Ty} {pos p p2 apos cpos : Pos} {a b c : Expr} {f g gi h : Gq} {pt : Pf} {ty t : Ty} {ts : List Ty}
theorem pp_var (j : Nat) {t : Ty} {x : Str} (hm : m[j]? = some t := by rfl) (hl : lstTy t = true := by rfl) (hN : ∀ i, (Xf i).N[j]? = some x := by intro _; rfl)
    (hv : ∀ i, Vis (Xf i).env.scope x := by first | (intro _; exact Or.inl rfl) | (intro _; exact Or.inr (Or.inl rfl)) | (intro _; exact Or.inr (Or.inr rfl))) (hd : (x == ("__debug__" : Str)) = false := by decide)
    (hcd : (x == ("__classdict__" : Str)) = false := by decide) : PPl Xf K m (.Name x pos) t (qVar j) (pVar j) := by
  refine ⟨tVar j, fun i => pe_var (hN i) (hv i) hd hcd, fun {G H σ e A d} st hf => ?_⟩
  obtain ⟨d', v, Aj, A0, h1, h2, h3, h4, hp⟩ := ownA_take st.own hm
  cases hf
  have ed : e.getD j .none = d' := by rw [List.getD_eq_getElem?_getD, h1]; rfl
  rw [ed]
  have hj : (m.set j .u)[j]? = some .u := by
    have := (List.getElem?_eq_some_iff.mp hm).1
    simp [this]
  obtain ⟨a, rfl⟩ : ∃ a : Addr, v = some (.ref a) := by
    cases h3 with
    | u => cases hl
    | s => cases hl
    | e => cases hl
    | k => cases hl
    | a => cases hl
    | q => cases hl
    | d => exact ⟨_, rfl⟩
    | l => exact ⟨_, rfl⟩
    | r => exact ⟨_, rfl⟩
  refine ⟨a, Aj, A0, hp, h3, fun {Q} k => ⟨_, h2, k H (Same.refl H)⟩, fun {G' H' d2 Ad'} sg o hr => ?_⟩
  obtain ⟨A', o', p'⟩ := ownA_put (ownA_fr h4 sg (fun b hb => (hr b hb).2) fun b hb => (hr b hb).1) hj o
  rw [List.set_set, set_id hm, set_id h2] at o'
  exact ⟨A', o', p'⟩
theorem repl_get {t : Ty} {n j : Nat} (h : j < n) : (List.replicate n t)[j]? = some t := by rw [List.getElem?_replicate, if_pos h]
theorem repl_set {t : Ty} {n j : Nat} : (List.replicate n t).set j t = List.replicate n t := by
  apply List.ext_getElem?
  intro i
  rw [List.getElem?_set]
  split
  · rename_i h; subst h; split
    · rw [List.getElem?_replicate]; simp_all
    · rw [List.getElem?_eq_none (by omega)]
  · rfl
/-- the inner list of a list of lists -/
theorem DPl.sub {te ti : TE} (hp : DPl K m te (.l t) g pt) (hi : DQv K m ti gi) (hl : lstTy t = true) : DPl K m (tOp (rIxL K) te ti) t (gSub1 g gi) (pSub1 g gi pt) := by
  intro G H σ e A d st hf
  obtain ⟨dl, h1, hf⟩ := Option.bind_eq_some_iff.mp hf
  obtain ⟨di, h2, hf⟩ := Option.bind_eq_some_iff.mp hf
  obtain ⟨a, Ad, Ar, hp1, o1, ev, back⟩ := hp st h1
  cases o1 with
  | @l _ _ vs ds A1 ga ha hz oA =>
    cases di with
    | int k =>
      have hf : (ixN ds.length k).bind (fun j => ds[j]?) = some d := hf
      obtain ⟨j, hj, hd⟩ := Option.bind_eq_some_iff.mp hf
      have hjl : j < ds.length := (List.getElem?_eq_some_iff.mp hd).1
      obtain ⟨d', v, Aj, A0, e1, e2, oj, oR, pj⟩ := ownA_take oA (j := j) (repl_get hjl)
      rw [hd] at e1; cases e1
      have len := (ownA_len oA).2
      rw [List.length_map] at len
      have hvj : ∃ w, v = some w ∧ vs[j]? = some w := by
        rw [List.getElem?_map] at e2
        obtain ⟨w, hw, e3⟩ := Option.map_eq_some_iff.mp e2
        exact ⟨w, e3.symm, hw⟩
      obtain ⟨w, rfl, hw⟩ := hvj
      obtain ⟨b, rfl⟩ : ∃ b : Addr, w = .ref b := by
        cases oj with
        | u => cases hl
        | s => cases hl
        | e => cases hl
        | k => cases hl
        | a => cases hl
        | q => cases hl
        | d => exact ⟨_, rfl⟩
        | l => exact ⟨_, rfl⟩
        | r => exact ⟨_, rfl⟩
      refine ⟨b, Aj, a :: (A0 ++ Ar), ?_, oj, fun {Q} kq => ?_, fun {G' H' d2 Ad'} sg o hr => ?_⟩
      · refine hp1.trans (List.perm_iff_count.mpr fun z => ?_)
        have := List.perm_iff_count.mp pj z
        simp only [List.count_append, List.count_cons, List.cons_append] at this ⊢
        omega
      · refine ev fun H1 s1 => hi (stt_grow st s1).2 h2 fun H2 x s2 q => ?_
        cases q with
        | int k =>
          refine ⟨a, vs, k, .ref b, rfl, rfl, .inl (.inl ((s1.trans s2) _ _ ha)), ?_, kq H2 (s1.trans s2)⟩
          unfold atI
          rw [len, hj]; exact hw
      · have hA0 : ∀ b ∈ A0, H' b = H b ∧ G' b = none := fun b hb => hr b (List.mem_cons_of_mem _ (List.mem_append_left _ hb))
        have hju : ((List.replicate ds.length t).set j .u)[j]? = some .u := by rw [List.getElem?_set_self (by rw [List.length_replicate]; exact hjl)]
        obtain ⟨A2, o2, p2⟩ := ownA_put (ownA_fr oR sg (fun b hb => (hA0 b hb).2) fun b hb => (hA0 b hb).1) hju o
        rw [List.set_set, repl_set, set_id e2] at o2
        have hra := hr a (List.mem_cons_self ..)
        have o3 : Own K G' H' (.l t) (.list (ds.set j d2)) (some (.ref a)) (a :: A2) := .l hra.2 (by rw [hra.1]; exact ha) hz (by rw [List.length_set]; exact o2)
        obtain ⟨A3, o4, p4⟩ := back sg o3 fun b hb => hr b (List.mem_cons_of_mem _ (List.mem_append_right _ hb))
        refine ⟨A3, ?_, p4.trans (List.perm_iff_count.mpr fun z => ?_)⟩
        · have : pSub1 g gi pt e d2 = pt e (.list (ds.set j d2)) := by
            show pt e (setD ((g e).getD .none) ((gi e).getD .none) d2) = _
            rw [h1, h2]
            show pt e (match ixN ds.length k with | some j => .list (ds.set j d2) | none => .list ds) = _
            rw [hj]
          rw [this]; exact o4
        · have := List.perm_iff_count.mp p2 z
          simp only [List.count_append, List.count_cons, List.cons_append] at this ⊢
          omega
    | _ => cases hf
/-- the k-th part of a record -/
theorem DPl.fld {te ti : TE} {k : Nat} (hp : DPl K m te (.r ts) g pt) (hi : DQv K m ti gi) (hk : ∀ e, gi e = some (.int (k : Nat))) (ht : ts[k]? = some t) (hl : lstTy t = true) : DPl K m (tOp (rIxL K) te ti) t (gSub1 g gi) (pSub1 g gi pt) := by
  intro G H σ e A d st hf
  obtain ⟨dl, h1, hf⟩ := Option.bind_eq_some_iff.mp hf
  obtain ⟨di, h2, hf⟩ := Option.bind_eq_some_iff.mp hf
  obtain ⟨a, Ad, Ar, hp1, o1, ev, back⟩ := hp st h1
  cases o1 with
  | @r _ _ vs ds A1 ga ha hz oA =>
    rw [hk e] at h2; cases h2
    have hf : (ixN ds.length ((k : Nat) : Int)).bind (fun j => ds[j]?) = some d := hf
    obtain ⟨j, hj, hd⟩ := Option.bind_eq_some_iff.mp hf
    have hjk : j = k := by
      have q := ixN_seq hj
      have q1 := q.1
      rw [seqIndex_of (by omega) (by omega)] at q1
      have := Option.some.inj q1
      omega
    subst hjk
    obtain ⟨d', v, Aj, A0, e1, e2, oj, oR, pj⟩ := ownA_take oA (j := j) ht
    rw [hd] at e1; cases e1
    have len := (ownA_len oA).2
    rw [List.length_map] at len
    have hvj : ∃ w, v = some w ∧ vs[j]? = some w := by
      rw [List.getElem?_map] at e2
      obtain ⟨w, hw, e3⟩ := Option.map_eq_some_iff.mp e2
      exact ⟨w, e3.symm, hw⟩
    obtain ⟨w, rfl, hw⟩ := hvj
    obtain ⟨b, rfl⟩ : ∃ b : Addr, w = .ref b := by
      cases oj with
      | u => cases hl
      | s => cases hl
      | e => cases hl
      | k => cases hl
      | a => cases hl
      | q => cases hl
      | d => exact ⟨_, rfl⟩
      | l => exact ⟨_, rfl⟩
      | r => exact ⟨_, rfl⟩
    refine ⟨b, Aj, a :: (A0 ++ Ar), ?_, oj, fun {Q} kq => ?_, fun {G' H' d2 Ad'} sg o hr => ?_⟩
    · refine hp1.trans (List.perm_iff_count.mpr fun z => ?_)
      have := List.perm_iff_count.mp pj z
      simp only [List.count_append, List.count_cons, List.cons_append] at this ⊢
      omega
    · refine ev fun H1 s1 => hi (stt_grow st s1).2 (hk e) fun H2 x s2 q => ?_
      cases q with
      | int =>
        refine ⟨a, vs, _, .ref b, rfl, rfl, .inl (.inl ((s1.trans s2) _ _ ha)), ?_, kq H2 (s1.trans s2)⟩
        unfold atI
        rw [len, hj]; exact hw
    · have hA0 : ∀ b ∈ A0, H' b = H b ∧ G' b = none := fun b hb => hr b (List.mem_cons_of_mem _ (List.mem_append_left _ hb))
      have hju : (ts.set j .u)[j]? = some .u := by rw [List.getElem?_set_self (List.getElem?_eq_some_iff.mp ht).1]
      obtain ⟨A2, o2, p2⟩ := ownA_put (ownA_fr oR sg (fun b hb => (hA0 b hb).2) fun b hb => (hA0 b hb).1) hju o
      rw [List.set_set, set_id ht, set_id e2] at o2
      have hra := hr a (List.mem_cons_self ..)
      have o3 : Own K G' H' (.r ts) (.list (ds.set j d2)) (some (.ref a)) (a :: A2) := .r hra.2 (by rw [hra.1]; exact ha) hz o2
      obtain ⟨A3, o4, p4⟩ := back sg o3 fun b hb => hr b (List.mem_cons_of_mem _ (List.mem_append_right _ hb))
      refine ⟨A3, ?_, p4.trans (List.perm_iff_count.mpr fun z => ?_)⟩
      · have : pSub1 g gi pt e d2 = pt e (.list (ds.set j d2)) := by
          show pt e (setD ((g e).getD .none) ((gi e).getD .none) d2) = _
          rw [h1, hk e]
          show pt e (match ixN ds.length ((j : Nat) : Int) with | some j => .list (ds.set j d2) | none => .list ds) = _
          rw [hj]
        rw [this]; exact o4
      · have := List.perm_iff_count.mp p2 z
        simp only [List.count_append, List.count_cons, List.cons_append] at this ⊢
        omega
include F in
theorem pp_sub (hp : PPl Xf K m a (.l t) g pt) (hi : PQ Xf K m b gi) (hl : lstTy t = true := by rfl) (hs : PlainIx b := by exact fun _ _ => rfl) : PPl Xf K m (.Subscript a b pos) t (gSub1 g gi) (pSub1 g gi pt) := by
  obtain ⟨ta, pa, da⟩ := hp.ex
  obtain ⟨tb, pb, db⟩ := hi.ex
  exact ⟨_, fun i => by have := pe_ix (ix_list (X := Xf i)) (pa i) (pb i) hs (pos := pos); rw [F.kk i] at this; exact this, DPl.sub da db hl⟩
include F in
theorem pp_fld (k : Nat) {j} {ki : Int} (hp : PPl Xf K m a (.r ts) g pt) (hk : ki = (k : Nat) := by rfl) (ht : ts[k]? = some t := by rfl) (hl : lstTy t = true := by rfl) : PPl Xf K m (.Subscript a (.Constant (.int ki) j p) pos) t (gSub1 g (qC (.int ki))) (pSub1 g (qC (.int ki)) pt) := by
  obtain ⟨ta, pa, da⟩ := hp.ex
  obtain ⟨tb, pb, db⟩ := (pq_int (Xf := Xf) (K := K) (m := m) (i := ki) (j := j) (pos := p)).ex
  exact ⟨_, fun i => by have := pe_ix (ix_list (X := Xf i)) (pa i) (pb i) (fun _ _ => rfl) (pos := pos); rw [F.kk i] at this; exact this, DPl.fld da db (fun e => by subst hk; rfl) ht hl⟩
end
end DL

namespace DL
open PySem L2 PySem.Spec

/-! ### statements over data -/
inductive Out where
  | nx | bk | ct | rt (d : PyData)
abbrev Sf := En → Option (Out × En)
structure Mk where
  b : List Ty
  c : List Ty
  r : List Ty
  po : List Nat
  ty : Ty
def Pin (po : List Nat) (σ σ' : St) : Prop := ∀ j ∈ po, σ'[j]? = σ[j]?
theorem Pin.refl {po : List Nat} {σ : St} : Pin po σ σ := fun _ _ => rfl
theorem Pin.trans {po : List Nat} {σ σ1 σ2 : St} (h : Pin po σ σ1) (k : Pin po σ1 σ2) : Pin po σ σ2 := fun j hj => (k j hj).trans (h j hj)
theorem Pin.set {po : List Nat} {σ : St} {j : Nat} {x : Option V} (h : j ∉ po) : Pin po σ (σ.set j x) := fun i hi => by rw [List.getElem?_set_ne]; intro z; exact h (z ▸ hi)
def Fin (K : PySem.W.Frag) (M : Mk) (mn : List Ty) (A : List Addr) (G H : Hp) (σ : St) (D : Ends) (e' : En) : Out → Prop
  | .nx => ∀ (G' H' : Hp) (σ' : St) (A' : List Addr), Step A G H A' G' H' → Stt K mn G' H' σ' e' A' → Pin M.po σ σ' → D.nx σ' H'
  | .bk => ∀ (G' H' : Hp) (σ' : St) (A' : List Addr), Step A G H A' G' H' → Stt K M.b G' H' σ' e' A' → Pin M.po σ σ' → D.bk σ' H'
  | .ct => ∀ (G' H' : Hp) (σ' : St) (A' : List Addr), Step A G H A' G' H' → Stt K M.c G' H' σ' e' A' → Pin M.po σ σ' → D.ct σ' H'
  | .rt d => ∀ (G' H' : Hp) (σ' : St) (v : V) (Av A' : List Addr), Step A G H (Av ++ A') G' H' → Stt K M.r G' H' σ' e' A' → Own K G' H' M.ty d (some v) Av → (Av ++ A').Nodup → Pin M.po σ σ' → D.rt v H'
def DS (K : PySem.W.Frag) (M : Mk) (m : List Ty) (t : TS) (f : Sf) (mn : List Ty) : Prop :=
  ∀ {G H : Hp} {σ : St} {e : En} {A : List Addr} {o : Out} {e' : En} {D : Ends}, Stt K m G H σ e A → f e = some (o, e') → Fin K M mn A G H σ D e' o → t D σ H
structure PSd {ι : Type} (Xf : ι → Cx) (K : PySem.W.Frag) (M : Mk) (m : List Ty) (st : Stmt) (f : Sf) (mn : List Ty) : Prop where
  ex : ∃ t : TS, (∀ i, PS (Xf i) st t) ∧ DS K M m t f mn
structure PSsd {ι : Type} (Xf : ι → Cx) (K : PySem.W.Frag) (M : Mk) (m : List Ty) (st : List Stmt) (f : Sf) (mn : List Ty) : Prop where
  ex : ∃ t : TS, (∀ i, PSs (Xf i) st t) ∧ DS K M m t f mn
class FamN {ι : Type} (Xf : ι → Cx) : Prop where
  ps : ∀ i, PassesOwn (model (Xf i).prog (Xf i).w) (Xf i).A (Xf i).env (Xf i).xe

/-- turns enough -/
def fuel : Nat := 1048576
def sNil : Sf := fun e => some (.nx, e)
def sSeq (f g : Sf) : Sf := fun e => (f e).bind fun p => match p.1 with
  | .nx => g p.2
  | o => some (o, p.2)
def sIf (c : Bf) (f g : Sf) : Sf := fun e => (c e).bind fun p => if p.1 = true then f p.2 else g p.2
def sRet (f : Ef) : Sf := fun e => (f e).map fun p => (.rt p.1, p.2)
def sBrk : Sf := fun e => some (.bk, e)
def sCnt : Sf := fun e => some (.ct, e)
def sRetN : Sf := fun e => some (.rt .none, e)
def sDrop (f : Ef) : Sf := fun e => (f e).map fun p => (.nx, p.2)
def sAsg (j : Nat) (f : Ef) : Sf := fun e => (f e).map fun p => (.nx, p.2.set j p.1)
def sTg (f : Ef) (g : Gf) : Sf := fun e => (f e).bind fun p => (g p.1 p.2).map fun e' => (.nx, e')
def sPar (i j : Nat) (f : Lf) : Sf := fun e => (f e).bind fun p => match p.1 with
  | [x, y] => some (.nx, (p.2.set i x).set j y)
  | _ => none
def sPar3 (i j l : Nat) (f : Lf) : Sf := fun e => (f e).bind fun p => match p.1 with
  | [x, y, z] => some (.nx, ((p.2.set i x).set j y).set l z)
  | _ => none
def forL (g : Gf) (f : Sf) : List PyData → En → Option (Out × En)
  | [], e => some (.nx, e)
  | d :: ds, e => (g d e).bind fun e1 => (f e1).bind fun p => match p.1 with
    | .nx => forL g f ds p.2
    | .ct => forL g f ds p.2
    | .bk => some (.nx, p.2)
    | .rt r => some (.rt r, p.2)
def sFor (it : Lf) (g : Gf) (f : Sf) : Sf := fun e => (it e).bind fun p => forL g f p.1 p.2
def whL (c : Bf) (f : Sf) : Nat → En → Option (Out × En)
  | 0, _ => none
  | k + 1, e => (c e).bind fun p => if p.1 = true then (f p.2).bind fun q => match q.1 with
    | .nx => whL c f k q.2
    | .ct => whL c f k q.2
    | .bk => some (.nx, q.2)
    | .rt r => some (.rt r, q.2) else some (.nx, p.2)
def sWh (fuel : Nat) (c : Bf) (f : Sf) : Sf := fun e => whL c f fuel e

section
variable {K : PySem.W.Frag} {M : Mk} {G H G1 H1 : Hp} {m m1 m2 mn : List Ty} {σ σ1 : St} {e : En} {A A1 : List Addr} {D : Ends} {e' : En} {o : Out} {t u : TS} {f g : Sf} {ef : Ef} {bf : Bf} {lf : Lf}
theorem Fin.back (s : Step A G H A1 G1 H1) (p : Pin M.po σ σ1) (h : Fin K M mn A G H σ D e' o) : Fin K M mn A1 G1 H1 σ1 D e' o := by
  cases o with
  | nx => exact fun G' H' σ' A' s' st' p' => h G' H' σ' A' (s.seq0 s') st' (p.trans p')
  | bk => exact fun G' H' σ' A' s' st' p' => h G' H' σ' A' (s.seq0 s') st' (p.trans p')
  | ct => exact fun G' H' σ' A' s' st' p' => h G' H' σ' A' (s.seq0 s') st' (p.trans p')
  | rt d => exact fun G' H' σ' v Av A' s' st' o' nd p' => h G' H' σ' v Av A' (s.seq0 s') st' o' nd (p.trans p')
/-- a value kept aside while a mask is weakened -/
theorem le_aside {v : V} {Av : List Addr} {ty : Ty} {d : PyData} (l : LeM m m1) (s : Step A G H (Av ++ A1) G1 H1) (st : Stt K m G1 H1 σ e A1) (ov : Own K G1 H1 ty d (some v) Av) (nd : (Av ++ A1).Nodup) :
    ∃ G2 A2, Step A G H (Av ++ A2) G2 H1 ∧ Stt K m1 G2 H1 σ e A2 ∧ Own K G2 H1 ty d (some v) Av ∧ (Av ++ A2).Nodup := by
  obtain ⟨G2, A2, s2, st2⟩ := stt_le l st
  obtain ⟨s3, nd3, hg, hh⟩ := s.seq (own_at ov) nd s2 st2.nd
  exact ⟨G2, A2, s3, st2, own_fr ov s2.sg hg fun _ _ => rfl, nd3⟩
theorem DS.le (h : DS K M m t f m1) (l : LeM m1 mn) : DS K M m t f mn := by
  intro G H σ e A o e' D st hf k
  refine h st hf ?_
  cases o with
  | nx =>
    intro G' H' σ' A' s' st' p'
    obtain ⟨G2, A2, s2, st2⟩ := stt_le l st'
    exact k G2 H' σ' A2 (s'.seq0 s2) st2 p'
  | bk => exact k
  | ct => exact k
  | rt d => exact k
theorem DS.pre (l : LeM m m1) (h : DS K M m1 t f mn) : DS K M m t f mn := by
  intro G H σ e A o e' D st hf k
  obtain ⟨G2, A2, s2, st2⟩ := stt_le l st
  exact h st2 hf (k.back s2 Pin.refl)
theorem DS.seq (h1 : DS K M m t f m1) (h2 : DS K M m1 u g mn) : DS K M m (tSeq t u) (sSeq f g) mn := by
  intro G H σ e A o e' D st hf k
  obtain ⟨⟨o1, e1⟩, hf1, hf⟩ := Option.bind_eq_some_iff.mp hf
  refine h1 st hf1 ?_
  cases o1 with
  | nx => exact fun G' H' σ' A' s' st' p' => h2 st' hf (k.back s' p')
  | bk => cases hf; exact k
  | ct => cases hf; exact k
  | rt d => cases hf; exact k
theorem DS.nil : DS K M m tNext sNil m := fun st hf k => by cases hf; exact k _ _ _ _ Step.refl st Pin.refl
theorem DS.ite {tc : TT} (hc : DT K m tc bf m1) (h1 : DS K M m1 t f mn) (h2 : DS K M m1 u g mn) : DS K M m (tIfS tc t u) (sIf bf f g) mn := by
  intro G H σ e A o e' D st hf k
  obtain ⟨⟨b, e1⟩, hf1, hf⟩ := Option.bind_eq_some_iff.mp hf
  refine hc st hf1 fun G1 H1 A1 s1 st1 => ?_
  cases b with
  | true => exact h1 st1 hf (k.back s1 Pin.refl)
  | false => exact h2 st1 hf (k.back s1 Pin.refl)
theorem DS.ret {te : TE} (he : DE K m te M.ty ef m1) (l : LeM m1 M.r) : DS K M m (tRet te) (sRet ef) mn := by
  intro G H σ e A o e' D st hf k
  obtain ⟨⟨d, e1⟩, hf1, hf⟩ := Option.map_eq_some_iff.mp hf
  cases hf
  refine he st hf1 fun G1 H1 v Av A1 s1 st1 o1 nd1 => ?_
  obtain ⟨G2, A2, s2, st2, o2, nd2⟩ := le_aside l s1 st1 o1 nd1
  exact k G2 H1 σ v Av A2 s2 st2 o2 nd2 Pin.refl
theorem DS.retN (ht : M.ty = .s) (l : LeM m M.r) : DS K M m tRetN sRetN mn := by
  intro G H σ e A o e' D st hf k
  cases hf
  obtain ⟨G2, A2, s2, st2⟩ := stt_le l st
  exact k G2 H σ .non [] A2 s2 st2 (by rw [ht]; exact .s .non) st2.nd Pin.refl
theorem DS.brk (l : LeM m M.b) : DS K M m tBreak sBrk mn := by
  intro G H σ e A o e' D st hf k
  cases hf
  obtain ⟨G2, A2, s2, st2⟩ := stt_le l st
  exact k G2 H σ A2 s2 st2 Pin.refl
theorem DS.cnt (l : LeM m M.c) : DS K M m tCont sCnt mn := by
  intro G H σ e A o e' D st hf k
  cases hf
  obtain ⟨G2, A2, s2, st2⟩ := stt_le l st
  exact k G2 H σ A2 s2 st2 Pin.refl
theorem DS.drop {te : TE} {ty : Ty} (he : DE K m te ty ef m1) : DS K M m (tDrop te) (sDrop ef) m1 := by
  intro G H σ e A o e' D st hf k
  obtain ⟨⟨d, e1⟩, hf1, hf⟩ := Option.map_eq_some_iff.mp hf
  cases hf
  exact he st hf1 fun G1 H1 v Av A1 s1 st1 o1 nd1 => k G1 H1 σ A1 (s1.less fun a h => List.mem_append_right _ h) st1 Pin.refl
theorem DS.asg {te : TE} {ty : Ty} {j : Nat} (he : DE K m te ty ef m1) (hj : j < m1.length) (hp : j ∉ M.po) : DS K M m (tAsg te (gName j)) (sAsg j ef) (m1.set j ty) := by
  intro G H σ e A o e' D st hf k
  obtain ⟨⟨d, e1⟩, hf1, hf⟩ := Option.map_eq_some_iff.mp hf
  cases hf
  refine he st hf1 fun G1 H1 v Av A1 s1 st1 o1 nd1 => ?_
  obtain ⟨A2, st2, hA⟩ := stt_set st1 hj o1 nd1
  exact k G1 H1 _ A2 (s1.less hA) st2 (Pin.set hp)
theorem DS.tg {te : TE} {tg : TG} {gf : Gf} {sl : List Nat} (he : DE K m te .s ef m1) (hg : DG K false m1 tg sl gf m2) (hp : ∀ j ∈ M.po, j ∉ sl) : DS K M m (tAsg te tg) (sTg ef gf) m2 := by
  intro G H σ e A o e' D st hf k
  obtain ⟨⟨d, e1⟩, hf1, hf⟩ := Option.bind_eq_some_iff.mp hf
  obtain ⟨e2, hf2, hf⟩ := Option.map_eq_some_iff.mp hf
  cases hf
  refine he st hf1 fun G1 H1 v Av A1 s1 st1 o1 nd1 => ?_
  cases o1 with
  | s q1 => exact hg st1 (.inl q1) hf2 fun G2 H2 σ2 A2 s2 st2 hs hl => k G2 H2 σ2 A2 (s1.seq0 s2) st2 fun j hj => hs j (hp j hj)
theorem DS.par {ta : TA} {i j : Nat} (ha : DA K m ta [.s, .s] lf m1) (hi : i < m1.length) (hj : j < m1.length) (pi : i ∉ M.po) (pj : j ∉ M.po) : DS K M m (tPar i j ta) (sPar i j lf) ((m1.set i .s).set j .s) := by
  intro G H σ e A o e' D st hf k
  obtain ⟨⟨ds, e1⟩, hf1, hf⟩ := Option.bind_eq_some_iff.mp hf
  refine ha st hf1 fun G1 H1 vs Av A1 s1 st1 o1 nd1 => ?_
  obtain ⟨rfl, q⟩ := of_ownA (n := 2) o1
  match ds, hf, q with
  | [x, y], hf, q =>
    cases hf
    match vs, q with
    | [v, w], q =>
      have qv := q.head
      have qw := q.tail.head
      obtain ⟨A2, st2, hA2⟩ := stt_set st1 hi (.s qv) (Av := []) st1.nd
      obtain ⟨A3, st3, hA3⟩ := stt_set st2 (by rw [List.length_set]; exact hj) (.s qw) (Av := []) st2.nd
      exact ⟨v, w, rfl, k G1 H1 _ A3 (s1.less fun a h => hA2 a (hA3 a h)) st3 ((Pin.set pi).trans (Pin.set pj))⟩
theorem DS.par3 {ta : TA} {i j l : Nat} (ha : DA K m ta [.s, .s, .s] lf m1) (hi : i < m1.length) (hj : j < m1.length) (hl : l < m1.length) (pi : i ∉ M.po) (pj : j ∉ M.po) (pl : l ∉ M.po) : DS K M m (tPar3 i j l ta) (sPar3 i j l lf) (((m1.set i .s).set j .s).set l .s) := by
  intro G H σ e A o e' D st hf k
  obtain ⟨⟨ds, e1⟩, hf1, hf⟩ := Option.bind_eq_some_iff.mp hf
  refine ha st hf1 fun G1 H1 vs Av A1 s1 st1 o1 nd1 => ?_
  obtain ⟨rfl, q⟩ := of_ownA (n := 3) o1
  match ds, hf, q with
  | [x, y, z], hf, q =>
    cases hf
    match vs, q with
    | [v, w, u], q =>
      obtain ⟨A2, st2, hA2⟩ := stt_set st1 hi (.s q.head) (Av := []) st1.nd
      obtain ⟨A3, st3, hA3⟩ := stt_set st2 (by rw [List.length_set]; exact hj) (.s q.tail.head) (Av := []) st2.nd
      obtain ⟨A4, st4, hA4⟩ := stt_set st3 (by rw [List.length_set, List.length_set]; exact hl) (.s q.tail.tail.head) (Av := []) st3.nd
      exact ⟨v, w, u, rfl, k G1 H1 _ A4 (s1.less fun a h => hA2 a (hA3 a (hA4 a h))) st4 (((Pin.set pi).trans (Pin.set pj)).trans (Pin.set pl))⟩
theorem DS.for {wk : Bool} {wi : TI} {tg : TG} {gf : Gf} {sl : List Nat} {ml : List Ty} (hi : DI K wk m wi lf m1) (l1 : LeM m1 ml) (hg : DG K wk ml tg sl gf m2) (hb : DS K { M with b := mn, c := ml } m2 t f ml) (l2 : LeM ml mn) (hp : ∀ j ∈ M.po, j ∉ sl) :
    DS K M m (tFor wi tg t) (sFor lf gf f) mn := by
  intro G H σ e A o e' D st hf k
  obtain ⟨⟨ds, e1⟩, hf1, hf⟩ := Option.bind_eq_some_iff.mp hf
  refine hi st hf1 fun G1 H1 A1 J s1 st1 wk hz => ?_
  obtain ⟨G2, A2, s2, st2⟩ := stt_le l1 st1
  let T := fun (i : Nat) (σc : St) (Hc : Hp) => ∃ Gc ec A', Step A G H A' Gc Hc ∧ Same G1 Gc ∧ Stt K ml Gc Hc σc ec A' ∧ Pin M.po σ σc ∧ forL gf f (ds.drop i) ec = some (o, e')
  refine ⟨fun i mm σc Hc => mm = ds.length - i ∧ i ≤ ds.length ∧ T i σc Hc, ⟨ds.length, by omega, Nat.zero_le _, G2, e1, A2, s1.seq0 s2, s2.sg, st2, Pin.refl, hf⟩, ?_⟩
  rintro i mm σc Hc ⟨rfl, hle, Gc, ec, A', sc, sg, stc, pc, hl⟩
  have sub1 : Same G1 Hc := sg.trans stc.sub
  by_cases hi : i < ds.length
  · refine .inr ⟨wk.goes i Hc hi sub1, fun σn Hn => i < ds.length ∧ T (i + 1) σn Hn, fun σn Hn hn => ⟨ds.length - (i + 1), by omega, rfl, by omega, hn.2⟩, fun x Hy hy => ?_⟩
    obtain ⟨Gy, sy, sty, sgy, qy⟩ := wk.yields hi sg stc hy
    have hd : ds.drop i = ds[i] :: ds.drop (i + 1) := List.drop_eq_getElem_cons hi
    rw [hd] at hl
    unfold forL at hl
    obtain ⟨e2, hl1, hl⟩ := Option.bind_eq_some_iff.mp hl
    obtain ⟨⟨o3, e3⟩, hl2, hl⟩ := Option.bind_eq_some_iff.mp hl
    refine hg sty (qy _ (List.getElem?_eq_getElem hi)) hl1 fun G3 H3 σ3 A3 s3 st3 k3 l3 => ?_
    have p3 : Pin M.po σ σ3 := pc.trans fun j hj => k3 j (hp j hj)
    have s03 := (sc.seq0 sy).seq0 s3
    refine hb st3 hl2 ?_
    cases o3 with
    | nx => exact fun G4 H4 σ4 A4 s4 st4 p4 => ⟨hi, G4, e3, A4, s03.seq0 s4, ((sg.trans sgy).trans s3.sg).trans s4.sg, st4, p3.trans p4, hl⟩
    | ct => exact fun G4 H4 σ4 A4 s4 st4 p4 => ⟨hi, G4, e3, A4, s03.seq0 s4, ((sg.trans sgy).trans s3.sg).trans s4.sg, st4, p3.trans p4, hl⟩
    | bk => cases hl; exact fun G4 H4 σ4 A4 s4 st4 p4 => k G4 H4 σ4 A4 (s03.seq0 s4) st4 (p3.trans p4)
    | rt r => cases hl; exact fun G4 H4 σ4 v Av A4 s4 st4 o4 nd4 p4 => k G4 H4 σ4 v Av A4 (s03.seq0 s4) st4 o4 nd4 (p3.trans p4)
  · have hie : i = ds.length := by omega
    subst hie
    rw [List.drop_length] at hl
    cases hl
    obtain ⟨G4, A4, s4, st4⟩ := stt_le l2 stc
    exact .inl ⟨wk.stops Hc sub1, k G4 Hc σc A4 (sc.seq0 s4) st4 pc⟩
theorem DS.wh {tc : TT} {ml : List Ty} {fuel : Nat} (l0 : LeM m ml) (hc : DT K ml tc bf m1) (hb : DS K { M with b := mn, c := ml } m1 t f ml) (l2 : LeM m1 mn) : DS K M m (tWhile tc t) (sWh fuel bf f) mn := by
  intro G H σ e A o e' D st hf k
  obtain ⟨G2, A2, s2, st2⟩ := stt_le l0 st
  refine ⟨fun i σc Hc => ∃ Gc ec A', Step A G H A' Gc Hc ∧ Stt K ml Gc Hc σc ec A' ∧ Pin M.po σ σc ∧ whL bf f i ec = some (o, e'), ⟨fuel, G2, e, A2, s2, st2, Pin.refl, hf⟩, ?_⟩
  rintro i σc Hc ⟨Gc, ec, A', sc, stc, pc, hl⟩
  cases i with
  | zero => cases hl
  | succ i =>
    unfold whL at hl
    obtain ⟨⟨b, e2⟩, hl1, hl⟩ := Option.bind_eq_some_iff.mp hl
    refine hc stc hl1 fun G3 H3 A3 s3 st3 => ?_
    cases b with
    | true =>
      rw [if_pos rfl] at hl ⊢
      obtain ⟨⟨o3, e3⟩, hl2, hl⟩ := Option.bind_eq_some_iff.mp hl
      refine ⟨fun σn Hn => ∃ Gc ec A', Step A G H A' Gc Hn ∧ Stt K ml Gc Hn σn ec A' ∧ Pin M.po σ σn ∧ whL bf f i ec = some (o, e'), fun σn Hn hn => ⟨i, Nat.lt_succ_self i, hn⟩, hb st3 hl2 ?_⟩
      have s03 := sc.seq0 s3
      cases o3 with
      | nx => exact fun G4 H4 σ4 A4 s4 st4 p4 => ⟨G4, e3, A4, s03.seq0 s4, st4, pc.trans p4, hl⟩
      | ct => exact fun G4 H4 σ4 A4 s4 st4 p4 => ⟨G4, e3, A4, s03.seq0 s4, st4, pc.trans p4, hl⟩
      | bk => cases hl; exact fun G4 H4 σ4 A4 s4 st4 p4 => k G4 H4 σ4 A4 (s03.seq0 s4) st4 (pc.trans p4)
      | rt r => cases hl; exact fun G4 H4 σ4 v Av A4 s4 st4 o4 nd4 p4 => k G4 H4 σ4 v Av A4 (s03.seq0 s4) st4 o4 nd4 (pc.trans p4)
    | false =>
      rw [if_neg (by simp)] at hl ⊢
      cases hl
      obtain ⟨G4, A4, s4, st4⟩ := stt_le l2 st3
      exact k G4 H3 σc A4 ((sc.seq0 s3).seq0 s4) st4 pc
end

section
variable {ι : Type} {Xf : ι → Cx} {P : Program} {w : World} {K : PySem.W.Frag} {mg : Str → Option Value} {base : Heap} {n : Nat} [F : Fam Xf P w K mg base n]
variable {M : Mk} {m m1 m2 mn ml : List Ty} {pos p p2 spos : Pos} {a b c v tg iter : Expr} {st : Stmt} {rest body orelse : List Stmt} {f g : Sf} {ef : Ef} {bf : Bf} {lf : Lf} {gf : Gf} {sl : List Nat} {ty : Ty}
theorem ss_nil : PSsd Xf K M m [] sNil m := ⟨_, fun i => pss_nil, DS.nil⟩
theorem ss_cons (h1 : PSd Xf K M m st f m1) (h2 : PSsd Xf K M m1 rest g mn) : PSsd Xf K M m (st :: rest) (sSeq f g) mn := by
  obtain ⟨t, p, d⟩ := h1.ex
  obtain ⟨u, q, d2⟩ := h2.ex
  exact ⟨_, fun i => pss_cons (p i) (q i), DS.seq d d2⟩
theorem ss_one (h1 : PSd Xf K M m st f m1) : PSsd Xf K M m [st] f m1 := by
  obtain ⟨t, p, d⟩ := h1.ex
  exact ⟨_, fun i => pss_one (p i), d⟩
theorem ss_le (h : PSsd Xf K M m rest f m1) (l : LeM m1 mn) : PSsd Xf K M m rest f mn := by
  obtain ⟨t, p, d⟩ := h.ex
  exact ⟨_, p, d.le l⟩
theorem ds_pass : PSd Xf K M m (.Pass pos) sNil m := ⟨_, fun i => ps_pass, DS.nil⟩
theorem ds_doc {x j pos pos'} : PSd Xf K M m (.Expr (.Constant (.str x) j pos) pos') sNil m := ⟨_, fun i => ps_doc, DS.nil⟩
theorem ds_brk (l : LeM m M.b) : PSd Xf K M m (.Break pos) sBrk mn := ⟨_, fun i => ps_break, DS.brk l⟩
theorem ds_cnt (l : LeM m M.c) : PSd Xf K M m (.Continue pos) sCnt mn := ⟨_, fun i => ps_continue, DS.cnt l⟩
theorem ds_ret (he : PD Xf K m v M.ty ef m1) (l : LeM m1 M.r) : PSd Xf K M m (.Return (some v) pos) (sRet ef) mn := by
  obtain ⟨t, p, d⟩ := he.ex
  exact ⟨_, fun i => ps_ret (p i), DS.ret d l⟩
theorem ds_retN (ht : M.ty = .s) (l : LeM m M.r) : PSd Xf K M m (.Return none pos) sRetN mn := ⟨_, fun i => ps_retN, DS.retN ht l⟩
theorem ds_if (hc : PB Xf K m c bf m1) (ha : PSsd Xf K M m1 body f mn) (hb : PSsd Xf K M m1 orelse g mn) : PSd Xf K M m (.If c body orelse pos) (sIf bf f g) mn := by
  obtain ⟨t, p, d⟩ := hc.ex
  obtain ⟨t1, p1, d1⟩ := ha.ex
  obtain ⟨t2, p2, d2⟩ := hb.ex
  exact ⟨_, fun i => ps_if (p i) (p1 i) (p2 i), DS.ite d d1 d2⟩
theorem ds_drop (he : PD Xf K m v ty ef m1) (hs : ∀ i, swapsWith v none pos.line (Xf i).env = pure false := by intro _; rfl) : PSd Xf K M m (.Expr v pos) (sDrop ef) m1 := by
  obtain ⟨t, p, d⟩ := he.ex
  exact ⟨_, fun i => ps_expr (p i) (hs i), DS.drop d⟩
include F in
theorem ds_asg (j : Nat) {x : Str} {pos' : Pos} (he : PD Xf K m v ty ef m1) (hj : j < m1.length := by decide) (hp : j ∉ M.po := by decide) (hi : ∀ i, (Xf i).N[j]? = some x := by intro _; rfl) (hx : ∀ i, Loc (Xf i).env.scope x := by first | (intro _; exact Or.inl rfl) | (intro _; exact Or.inr rfl))
    (hs : ∀ i, swapsWith v (some (.Name x pos')) pos.line (Xf i).env = pure false := by intro _; rfl) (hf : ∀ i, (Xf i).fn x = true ∨ (Xf i).env.scope.names.lookup x = some .local := by first | (intro _; exact Or.inl rfl) | (intro _; exact Or.inr rfl)) :
    PSd Xf K M m (.Assign [.Name x pos'] v pos) (sAsg j ef) (m1.set j ty) := by
  obtain ⟨t, p, d⟩ := he.ex
  exact ⟨_, fun i => ps_set (F.nd i) (hi i) (hx i) (p i) (hs i) (hf i), DS.asg d hj hp⟩
theorem ds_tg (he : PD Xf K m v .s ef m1) (hg : PGD Xf K false m1 tg sl gf m2) (hp : ∀ j ∈ M.po, j ∉ sl := by decide) (hs : ∀ i, swapsWithSole [tg] v pos.line (Xf i).env = pure false := by intro _; rfl) (hw : ∀ i, swappedStores [tg] v (Xf i).env = pure none := by intro _; rfl)
    (h1 : ∀ i, (assignEach [tg] (Xf i).env).map (·.2) = [assign tg (Xf i).env] := by intro _; rfl) : PSd Xf K M m (.Assign [tg] v pos) (sTg ef gf) m2 := by
  obtain ⟨t, p, d⟩ := he.ex
  obtain ⟨t2, p2, d2⟩ := hg.ex
  exact ⟨_, fun i => ps_asg (p i) (p2 i) (hs i) (hw i) (h1 i), DS.tg d d2 hp⟩
include F in
theorem ds_par [FG : FamG Xf] (i j : Nat) {L : List (Option Nat)} {x y : Str} {px py pt pt2 : Pos} {kt k2} (ha : PAL Xf K m [a, b] [.s, .s] L lf m1) (hi : i < m1.length := by decide) (hj : j < m1.length := by decide) (pi : i ∉ M.po := by decide) (pj : j ∉ M.po := by decide) (hij : i ≠ j := by decide)
    (ni : ∀ z, (Xf z).N[i]? = some x := by intro _; rfl) (nj : ∀ z, (Xf z).N[j]? = some y := by intro _; rfl) (hx : ∀ z, (Xf z).env.scope.names.lookup x = some .local := by intro _; rfl) (hy : ∀ z, (Xf z).env.scope.names.lookup y = some .local := by intro _; rfl)
    (hw : ∀ z, swappedStores [.Tuple [.Name x px, .Name y py] kt pt] (.Tuple [a, b] k2 pt2) (Xf z).env = pure (some [x, y]) := by intro _; rfl) (hs : ∀ z, swapsWithSole [.Tuple [.Name x px, .Name y py] kt pt] (.Tuple [a, b] k2 pt2) pos.line (Xf z).env = pure false := by intro _; rfl) :
    PSd Xf K M m (.Assign [.Tuple [.Name x px, .Name y py] kt pt] (.Tuple [a, b] k2 pt2) pos) (sPar i j lf) ((m1.set i .s).set j .s) := by
  obtain ⟨t, p, d⟩ := ha.ex
  exact ⟨_, fun z => ps_par (FG.calm z) (F.nd z) (ni z) (nj z) hij (hx z) (hy z) (p z) (hw z) (hs z), DS.par (fun st hf k => d st hf fun G' H' vs Av A' s st' o nd _ => k G' H' vs Av A' s st' o nd) hi hj pi pj⟩
include F in
theorem ds_par3 [FG : FamG Xf] (i j l : Nat) {L : List (Option Nat)} {x y z : Str} {px py pz pt pt2 : Pos} {kt k2} (ha : PAL Xf K m [a, b, c] [.s, .s, .s] L lf m1) (hi : i < m1.length := by decide) (hj : j < m1.length := by decide) (hl : l < m1.length := by decide) (pi : i ∉ M.po := by decide) (pj : j ∉ M.po := by decide) (pl : l ∉ M.po := by decide) (hij : i ≠ j := by decide) (hil : i ≠ l := by decide) (hjl : j ≠ l := by decide)
    (ni : ∀ q, (Xf q).N[i]? = some x := by intro _; rfl) (nj : ∀ q, (Xf q).N[j]? = some y := by intro _; rfl) (nl : ∀ q, (Xf q).N[l]? = some z := by intro _; rfl) (hx : ∀ q, (Xf q).env.scope.names.lookup x = some .local := by intro _; rfl) (hy : ∀ q, (Xf q).env.scope.names.lookup y = some .local := by intro _; rfl) (hz : ∀ q, (Xf q).env.scope.names.lookup z = some .local := by intro _; rfl)
    (hw : ∀ q, swappedStores [.Tuple [.Name x px, .Name y py, .Name z pz] kt pt] (.Tuple [a, b, c] k2 pt2) (Xf q).env = pure (some [x, y, z]) := by intro _; rfl) (hs : ∀ q, swapsWithSole [.Tuple [.Name x px, .Name y py, .Name z pz] kt pt] (.Tuple [a, b, c] k2 pt2) pos.line (Xf q).env = pure false := by intro _; rfl) :
    PSd Xf K M m (.Assign [.Tuple [.Name x px, .Name y py, .Name z pz] kt pt] (.Tuple [a, b, c] k2 pt2) pos) (sPar3 i j l lf) (((m1.set i .s).set j .s).set l .s) := by
  obtain ⟨t, p, d⟩ := ha.ex
  exact ⟨_, fun q => ps_par3 (FG.calm q) (F.nd q) (ni q) (nj q) (nl q) hij hil hjl (hx q) (hy q) (hz q) (p q) (hw q) (hs q), DS.par3 (fun st hf k => d st hf fun G' H' vs Av A' s st' o nd _ => k G' H' vs Av A' s st' o nd) hi hj hl pi pj pl⟩
include F in
theorem ds_for [FG : FamG Xf] {wk : Bool} [FN : FamN Xf] (ml : List Ty) (hi : PIt Xf K wk m tg iter lf m1) (l1 : LeM m1 ml) (hg : PGD Xf K wk ml tg sl gf m2) (hb : PSsd Xf K { M with b := mn, c := ml } m2 body f ml) (l2 : LeM ml mn) (hp : ∀ j ∈ M.po, j ∉ sl := by decide)
    (hs : ∀ i x, foldedSetIterable iter (Xf i).env x = pure x := by intro _ _; rfl) : PSd Xf K M m (.For tg iter body [] pos) (sFor lf gf f) mn := by
  obtain ⟨wi, pi, di⟩ := hi.ex
  obtain ⟨g, pg, dg⟩ := hg.ex
  obtain ⟨t, p, d⟩ := hb.ex
  exact ⟨_, fun i => ps_for (FN.ps i) (FG.calm i) (pi i) (pg i) (p i) (hs i), DS.for di l1 dg d l2 hp⟩
theorem ds_wh [FN : FamN Xf] (fuel : Nat) (ml : List Ty) (l0 : LeM m ml) (hc : PB Xf K ml c bf m1) (hb : PSsd Xf K { M with b := mn, c := ml } m1 body f ml) (l2 : LeM m1 mn) : PSd Xf K M m (.While c body [] pos) (sWh fuel bf f) mn := by
  obtain ⟨t, p, d⟩ := hc.ex
  obtain ⟨t2, p2, d2⟩ := hb.ex
  exact ⟨_, fun i => ps_while (FN.ps i) (p i) (p2 i), DS.wh l0 d d2 l2⟩
include F in
/-- name = [.. for ..] on one line -/
theorem ds_setLc [FG : FamG Xf] {wk : Bool} (j : Nat) {x : Str} {py : Pos} {elt : Expr} {ifs : List Expr} {scope : Scope} {tf : Bf} (own : List (Str × Nat)) (hi : PIt Xf K wk m tg iter lf m1) (hg : PGD (blkF Xf scope) K wk (hideM m1 (own.map (·.2))) tg sl gf m2) (ht : PTsD (blkF Xf scope) K m2 ifs tf) (he : PD (blkF Xf scope) K m2 elt ty ef m2)
    (ok : ∀ i, BlkOk (Xf i).N (Xf i).env.scope scope own := by intro _; exact blkOk_by (by rfl)) (us : usB m1 (own.map (·.2)) = true := by rfl) (hs : ∀ j ∈ sl, j ∈ own.map (·.2) := by decide) (le : LeM m2 (hideM m1 (own.map (·.2))) := by repeat (first | exact .nil | refine .cons (by first | exact .rfl _ | exact .u _) ?_))
    (hj : j < m1.length := by decide) (hp : j ∉ M.po := by decide) (hN : ∀ i, (Xf i).N[j]? = some x := by intro _; rfl) (hyl : ∀ i, (Xf i).env.scope.names.lookup x = some .local := by intro _; rfl)
    (hsw : ∀ i, swapsWith (.ListComp elt [⟨tg, iter, ifs, 0⟩] scope pos) (some (.Name x py)) spos.line (Xf i).env = pure true := by intro _; exact sw_true rfl rfl (by rfl) (by rfl))
    (hf : ∀ i x, foldedSetIterable iter (Xf i).env x = pure x := by intro _ _; rfl) : PSd Xf K M m (.Assign [.Name x py] (.ListComp elt [⟨tg, iter, ifs, 0⟩] scope pos) spos) (sAsg j (eLc lf (own.map (·.2)) gf tf ef)) (m1.set j (.l ty)) := by
  obtain ⟨wi, pi, di⟩ := hi.ex
  obtain ⟨g, pg, dg⟩ := hg.ex
  obtain ⟨tt, pt, dt⟩ := ht.ex
  obtain ⟨te, pe, de⟩ := he.ex
  exact ⟨_, fun i => ps_setLc (FG.calm i) (F.nd i) (hN i) (hyl i) (hsw i) (pi i) (ok i) (fun s H C cl fp => pg ⟨i, s, H, C, cl, fp⟩) (fun s H C cl fp => pt ⟨i, s, H, C, cl, fp⟩) (fun s H C cl fp => pe ⟨i, s, H, C, cl, fp⟩) (hf i), DS.asg (DE.lc di dg dt de us hs le) hj hp⟩
end
end DL

namespace DL
open PySem L2 PySem.Spec

/-! ### owned lists written -/
def eApp (j : Nat) (f : Ef) : Ef := fun e => (f e).bind fun p => match e.getD j .none with
  | .list ds => if ds.length < sizeLine then some (.none, p.2.set j (.list (ds ++ [p.1]))) else none
  | _ => none
def eAppV (g : Gq) (pt : Pf) (gv : Gq) : Ef := fun e => (g e).bind fun d => (gv e).bind fun x => match d with
  | .list ds => if ds.length < sizeLine then some (.none, pt e (.list (ds ++ [x]))) else none
  | _ => none
def ePop (g : Gq) (pt : Pf) : Ef := fun e => (g e).bind fun d => match d with
  | .list ds => (ds[ds.length - 1]?).map fun x => (x, pt e (.list ds.dropLast))
  | _ => none
def ePopAt (g : Gq) (pt : Pf) (gi : Gq) : Ef := fun e => (g e).bind fun d => (gi e).bind fun i => match d, i with
  | .list ds, .int k => if -(2 ^ 63) ≤ k ∧ k < 2 ^ 63 then (ixN ds.length k).bind fun j => (ds[j]?).map fun x => (x, pt e (.list (ds.eraseIdx j))) else none
  | _, _ => none
def sSet (g : Gq) (pt : Pf) (gi : Gq) (f : Ef) : Sf := fun e => (f e).bind fun p => (g p.2).bind fun d => (gi p.2).bind fun i => match d, i with
  | .list ds, .int k => (ixN ds.length k).map fun j => (.nx, pt p.2 (.list (ds.set j p.1)))
  | _, _ => none
def eItm (g gi : Gq) : Ef := fun e => (g e).bind fun d => (gi e).bind fun i => (itemD d i).map fun x => (x, e)

theorem ite_some2 {α : Type} {c : Prop} [Decidable c] {a : Option α} {b : α} (h : (if c then a else none) = some b) : c ∧ a = some b := by
  split at h
  · rename_i hc; exact ⟨hc, h⟩
  · cases h
section
variable {K : PySem.W.Frag} {G H G1 H1 : Hp} {m m1 m2 mn : List Ty} {σ : St} {e : En} {A A1 : List Addr} {t : Ty} {ts : List Ty}
theorem ownA_erase {ds : List PyData} {vs : List (Option V)} {t : Ty} : ∀ {n : Nat} {ds : List PyData} {vs : List (Option V)} {A : List Addr} {j : Nat} {d : PyData}, OwnA K G H (List.replicate n t) ds vs A → ds[j]? = some d →
    ∃ v Aj A0, vs[j]? = some v ∧ Own K G H t d v Aj ∧ OwnA K G H (List.replicate (n - 1) t) (ds.eraseIdx j) (vs.eraseIdx j) A0 ∧ A.Perm (Aj ++ A0)
  | 0, _, _, _, j, d, h, hd => by cases h; simp at hd
  | n + 1, _, _, _, j, d, h, hd => by
    cases h with
    | @cons _ _ d0 ds v0 vs A B h1 h2 =>
      cases j with
      | zero =>
        simp at hd; subst hd
        exact ⟨v0, A, B, rfl, h1, by simpa using h2, List.Perm.refl _⟩
      | succ j =>
        have hd : ds[j]? = some d := by simpa using hd
        obtain ⟨v, Aj, A0, e1, o1, o2, p⟩ := ownA_erase (ds := ds) (vs := vs) h2 hd
        have hn : 0 < n := by
          have a := (ownA_len h2).1
          rw [List.length_replicate] at a
          have := (List.getElem?_eq_some_iff.mp hd).1
          omega
        refine ⟨v, Aj, A ++ A0, by simpa using e1, o1, ?_, ?_⟩
        · have := OwnA.cons h1 o2
          rw [← List.replicate_succ, show n - 1 + 1 = n by omega] at this
          simpa using this
        · exact (List.Perm.append_left A p).trans (by rw [← List.append_assoc, ← List.append_assoc]; exact List.Perm.append_right _ List.perm_append_comm)
theorem replicate_snoc {n : Nat} {t : Ty} : List.replicate n t ++ [t] = List.replicate (n + 1) t := by rw [List.replicate_succ']
theorem DE.app {te : TE} {f : Ef} {j : Nat} (hm : m[j]? = some (.l t)) (he : DE K (m.set j .u) te t f m1) (hm1 : m1[j]? = some .u) : DE K m (tBM K "list" rAppend (tVar j) (tCons te tNil)) .s (eApp j f) (m1.set j (.l t)) := by
  intro G H σ e A d e' Q st hf k
  obtain ⟨⟨dx, e1⟩, hf1, hf⟩ := Option.bind_eq_some_iff.mp hf
  obtain ⟨dj, vj, Aj, A0, h1, h2, h3, h4, hp⟩ := ownA_take st.own hm
  have nd := hp.nodup_iff.mp st.nd
  have st0 : Stt K (m.set j .u) G H σ e A0 := ⟨h4, (List.nodup_append.mp nd).2.1, st.sub⟩
  cases h3 with
  | @l _ a vs ds Ai ga ha hz oi =>
    have ed : e.getD j .none = .list ds := by rw [List.getD_eq_getElem?_getD, h1]; rfl
    rw [ed] at hf
    obtain ⟨hlt, hf⟩ := ite_some hf
    cases hf
    refine ⟨.ref a, h2, .inl ⟨rfl, _, .inl (.inl ha)⟩, ?_⟩
    refine he st0 hf1 fun G1 H1 x Av A1 s1 st1 ov ndv => ?_
    have s0 : Step A G H ((a :: Ai) ++ A0) G H := ⟨Same.refl G, fun _ _ h _ => h, fun b hb => .inl (hp.mem_iff.mpr hb), fun b h ⟨o, z⟩ => by rw [h] at z; cases z⟩
    have oj : Own K G H (.l t) (.list ds) (some (.ref a)) (a :: Ai) := .l ga ha hz oi
    obtain ⟨s2, nd2, hg, hh⟩ := s0.seq (own_at oj) nd s1 ndv
    have ha1 : H1 a = some (.lst vs) := by rw [hh a (List.mem_cons_self ..)]; exact ha
    have ga1 : G1 a = none := hg a (List.mem_cons_self ..)
    have oi1 := ownA_fr oi s1.sg (fun b hb => hg b (List.mem_cons_of_mem _ hb)) fun b hb => hh b (List.mem_cons_of_mem _ hb)
    have len : vs.length = ds.length := by have := (ownA_len oi).2; simpa using this
    refine ⟨a, vs, x, rfl, rfl, ha1, by omega, ?_⟩
    have nda : a ∉ Ai ++ (Av ++ A1) := by
      have := nd2
      rw [List.cons_append] at this
      exact (List.nodup_cons.mp this).1
    have fr : ∀ b, b ≠ a → upd H1 a (.lst (vs ++ [x])) b = H1 b := fun b hb => upd_ne hb
    have ne : ∀ b ∈ Ai ++ (Av ++ A1), b ≠ a := fun b hb z => nda (z ▸ hb)
    have i1 := ownA_fr (H' := upd H1 a (.lst (vs ++ [x]))) oi1 (Same.refl G1) (fun b hb => (ownA_at oi1 b hb).1) fun b hb => fr b (ne b (List.mem_append_left _ hb))
    have i2 := own_fr (H' := upd H1 a (.lst (vs ++ [x]))) ov (Same.refl G1) (fun b hb => (own_at ov b hb).1) fun b hb => fr b (ne b (List.mem_append_right _ (List.mem_append_left _ hb)))
    have i3 := ownA_snoc i1 i2
    rw [replicate_snoc] at i3
    have oN : Own K G1 (upd H1 a (.lst (vs ++ [x]))) (.l t) (.list (ds ++ [dx])) (some (.ref a)) (a :: (Ai ++ Av)) := .l ga1 upd_same (by rw [List.length_append, List.length_singleton]; omega) (by rw [List.length_append, List.length_singleton, List.map_append]; exact i3)
    have i4 := ownA_fr (H' := upd H1 a (.lst (vs ++ [x]))) st1.own (Same.refl G1) (fun b hb => (ownA_at st1.own b hb).1) fun b hb => fr b (ne b (List.mem_append_right _ (List.mem_append_right _ hb)))
    obtain ⟨A2, o2, p2⟩ := ownA_put i4 hm1 oN
    rw [set_id (l := σ) h2] at o2
    have pA : A2.Perm ((a :: Ai) ++ (Av ++ A1)) := p2.trans (List.perm_iff_count.mpr fun z => by simp only [List.count_append, List.count_cons, List.cons_append]; omega)
    refine k G1 _ .non [] A2 ⟨s2.sg, fun b o hb hbA => ?_, fun b hb => s2.own b (pA.mem_iff.mp hb), s2.gnew⟩ ⟨o2, pA.nodup_iff.mpr nd2, fun b o hb => ?_⟩ (.s .non) (pA.nodup_iff.mpr nd2)
    · rw [fr b (fun z => hbA (z ▸ hp.mem_iff.mpr (List.mem_append_left _ (List.mem_cons_self ..))))]
      exact s2.fr b o hb hbA
    · rw [fr b (ne_of_none hb ga1)]; exact st1.sub b o hb

/-- a list at a place is rewritten at a -/
theorem pl_wrote {a : Addr} {Ad Ar Ad' : List Addr} {pt : Pf} {ty : Ty} {d d' : PyData} {H2 : Hp} {u : HO} (st : Stt K m G H σ e A) (hp : A.Perm (Ad ++ Ar)) (o1 : Own K G H ty d (some (.ref a)) Ad)
    (back : ∀ {G' H' : Hp} {d' : PyData} {Ad' : List Addr}, Same G G' → Own K G' H' ty d' (some (.ref a)) Ad' → (∀ b ∈ Ar, H' b = H b ∧ G' b = none) → ∃ A', OwnA K G' H' m (pt e d') σ A' ∧ A'.Perm (Ad' ++ Ar))
    (s : Same H H2) (hin : a ∈ Ad) (o2 : Own K G (upd H2 a u) ty d' (some (.ref a)) Ad') (sub : ∀ b ∈ Ad', b ∈ Ad) (nd' : Ad'.Nodup) :
    ∃ A', Step A G H A' G (upd H2 a u) ∧ Stt K m G (upd H2 a u) σ (pt e d') A' ∧ ∀ b ∈ A', b ∈ Ad' ++ Ar := by
  have nd := hp.nodup_iff.mp st.nd
  have n := List.nodup_append.mp nd
  have ga : G a = none := (own_at o1 a hin).1
  have atA : ∀ b ∈ A, G b = none ∧ ∃ o, H b = some o := ownA_at st.own
  obtain ⟨A', oA, pA⟩ := back (Same.refl G) o2 fun b hb => by
    have hbA := hp.mem_iff.mpr (List.mem_append_right Ad hb)
    obtain ⟨gb, o, ho⟩ := atA b hbA
    refine ⟨?_, gb⟩
    rw [upd_ne (fun z => n.2.2 a hin b hb z.symm), s b o ho, ho]
  have ndA : A'.Nodup := pA.nodup_iff.mpr (List.nodup_append.mpr ⟨nd', n.2.1, fun x hx y hy z => n.2.2 x (sub x hx) y hy z⟩)
  have inA : ∀ b ∈ A', b ∈ A := fun b hb => hp.mem_iff.mpr ((List.mem_append.mp (pA.mem_iff.mp hb)).elim (fun z => List.mem_append_left _ (sub b z)) fun z => List.mem_append_right _ z)
  refine ⟨A', ⟨Same.refl G, fun b o hb hbA => ?_, fun b hb => .inl (inA b hb), fun b h1 ⟨o, h2⟩ => by rw [h1] at h2; cases h2⟩, ⟨oA, ndA, fun b o hb => ?_⟩, fun b hb => pA.mem_iff.mp hb⟩
  · have hne : b ≠ a := fun z => hbA (by rw [z]; exact hp.mem_iff.mpr (List.mem_append_left _ hin))
    rw [upd_ne hne]; exact s b o hb
  · rw [upd_ne (ne_of_none hb ga)]; exact s b o (st.sub b o hb)
theorem DE.appV {te tv : TE} {g gv : Gq} {pt : Pf} (hp : DPl K m te (.l .s) g pt) (hv : DPv K m tv gv) : DE K m (tBM K "list" rAppend te (tCons tv tNil)) .s (eAppV g pt gv) m := by
  intro G H σ e A d e' Q st hf k
  obtain ⟨dl, h1, hf⟩ := Option.bind_eq_some_iff.mp hf
  obtain ⟨dx, h2, hf⟩ := Option.bind_eq_some_iff.mp hf
  obtain ⟨a, Ad, Ar, hp1, o1, ev, back⟩ := hp st h1
  have o1' := o1
  cases o1 with
  | @l _ _ vs ds Ai ga ha hz oi =>
    obtain ⟨hlt, hf⟩ := ite_some hf
    cases hf
    obtain ⟨rfl, qi⟩ := of_ownA oi
    refine ev fun H1 s1 => ⟨.inl ⟨rfl, _, .inl (.inl (s1 _ _ ha))⟩, hv (stt_grow st s1).2 h2 fun H2 x s2 q => ?_⟩
    have s12 := s1.trans s2
    refine ⟨a, vs, x, rfl, rfl, s12 _ _ ha, by rw [qi.1]; exact hlt, ?_⟩
    have q' : DqA K G (vs ++ [x]) (ds ++ [dx]) := qi.append (DqA.cons q DqA.nil)
    obtain ⟨A2, s3, st3, inA⟩ := pl_wrote (u := .lst (vs ++ [x])) (Ad' := [a]) st hp1 o1' back s12 (List.mem_cons_self ..) (.l ga upd_same (by rw [List.length_append, List.length_singleton, qi.1]; omega) (ownA_of q')) (fun b hb => hb) (by simp)
    exact k G _ .non [] A2 s3 st3 (.s .non) st3.nd
theorem DE.pop {te : TE} {g : Gq} {pt : Pf} (hp : DPl K m te (.l t) g pt) : DE K m (tBM0 K "list" rPop te) t (ePop g pt) m := by
  intro G H σ e A d e' Q st hf k
  obtain ⟨dl, h1, hf⟩ := Option.bind_eq_some_iff.mp hf
  obtain ⟨a, Ad, Ar, hp1, o1, ev, back⟩ := hp st h1
  have o1' := o1
  cases o1 with
  | @l _ _ vs ds Ai ga ha hz oi =>
    obtain ⟨x, hx, hf⟩ := Option.map_eq_some_iff.mp hf
    cases hf
    have len : vs.length = ds.length := by have := (ownA_len oi).2; simpa using this
    obtain ⟨v, Aj, A0, e1, oj, o0, pj⟩ := ownA_erase (ds := ds) (vs := vs.map some) oi hx
    rw [List.getElem?_map] at e1
    obtain ⟨w, hw, e2⟩ := Option.map_eq_some_iff.mp e1
    subst e2
    refine ev fun H1 s1 => ⟨.inl ⟨rfl, _, .inl (.inl (s1 _ _ ha))⟩, a, vs, w, rfl, rfl, s1 _ _ ha, by rw [len]; exact hw, ?_⟩
    have nd := hp1.nodup_iff.mp st.nd
    have n := List.nodup_append.mp nd
    have n1 := List.nodup_cons.mp n.1
    have n2 := List.nodup_append.mp (pj.nodup_iff.mp n1.2)
    have inI : ∀ b, b ∈ Aj ++ A0 → b ∈ Ai := fun b hb => pj.mem_iff.mpr hb
    have hfr : ∀ b ∈ Ai, upd H1 a (.lst vs.dropLast) b = H b := fun b hb => by
      obtain ⟨_, o, ho⟩ := ownA_at oi b hb
      have hne : b ≠ a := fun z => n1.1 (by rw [← z]; exact hb)
      rw [upd_ne hne, s1 b o ho, ho]
    have gfr : ∀ b ∈ Ai, G b = none := fun b hb => (ownA_at oi b hb).1
    have hne : ds ≠ [] := fun z => by rw [z] at hx; simp at hx
    have edr : ds.eraseIdx (ds.length - 1) = ds.dropLast := by rw [List.eraseIdx_eq_take_drop_succ, show ds.length - 1 + 1 = ds.length by have := List.length_pos_iff.mpr hne; omega, List.drop_length, List.append_nil, ← List.dropLast_eq_take]
    have evr : (vs.map some).eraseIdx (ds.length - 1) = vs.dropLast.map some := by
      rw [← len, List.eraseIdx_eq_take_drop_succ]
      have : vs.length - 1 + 1 = vs.length := by have := List.length_pos_iff.mpr hne; omega
      rw [this, List.drop_eq_nil_of_le (by simp), List.append_nil, List.dropLast_eq_take, List.map_take]
    rw [edr, evr] at o0
    have oN : Own K G (upd H1 a (.lst vs.dropLast)) (.l t) (.list ds.dropLast) (some (.ref a)) (a :: A0) := .l ga upd_same (by rw [List.length_dropLast]; omega) (by
      rw [List.length_dropLast]
      exact ownA_fr o0 (Same.refl G) (fun b hb => gfr b (inI b (List.mem_append_right _ hb))) fun b hb => hfr b (inI b (List.mem_append_right _ hb)))
    obtain ⟨A2, s3, st3, inA⟩ := pl_wrote (u := .lst vs.dropLast) (Ad' := a :: A0) st hp1 o1' back s1 (List.mem_cons_self ..) oN (fun b hb => by
      rcases List.mem_cons.mp hb with z | z
      · rw [z]; exact List.mem_cons_self ..
      · exact List.mem_cons_of_mem _ (inI b (List.mem_append_right _ z))) (List.nodup_cons.mpr ⟨fun z => n1.1 (inI _ (List.mem_append_right _ z)), n2.2.1⟩)
    have oj2 := own_fr (H' := upd H1 a (.lst vs.dropLast)) oj (Same.refl G) (fun b hb => gfr b (inI b (List.mem_append_left _ hb))) fun b hb => hfr b (inI b (List.mem_append_left _ hb))
    refine k G _ w Aj A2 ⟨s3.sg, s3.fr, fun b hb => ?_, s3.gnew⟩ st3 oj2 ?_
    · rcases List.mem_append.mp hb with z | z
      · exact .inl (hp1.mem_iff.mpr (List.mem_append_left _ (List.mem_cons_of_mem _ (inI b (List.mem_append_left _ z)))))
      · exact s3.own b z
    · refine List.nodup_append.mpr ⟨n2.1, st3.nd, fun x hx y hy z => ?_⟩
      subst z
      rcases List.mem_append.mp (inA x hy) with q | q
      · rcases List.mem_cons.mp q with q | q
        · exact n1.1 (q ▸ inI x (List.mem_append_left _ hx))
        · exact n2.2.2 x hx x q rfl
      · exact n.2.2 x (List.mem_cons_of_mem _ (inI x (List.mem_append_left _ hx))) x q rfl
theorem DE.popAt {te ti : TE} {g gi : Gq} {pt : Pf} (hp : DPl K m te (.l t) g pt) (hi : DQv K m ti gi) : DE K m (tBM K "list" rPopAt te (tCons ti tNil)) t (ePopAt g pt gi) m := by
  intro G H σ e A d e' Q st hf k
  obtain ⟨dl, h1, hf⟩ := Option.bind_eq_some_iff.mp hf
  obtain ⟨di, h2, hf⟩ := Option.bind_eq_some_iff.mp hf
  obtain ⟨a, Ad, Ar, hp1, o1, ev, back⟩ := hp st h1
  have o1' := o1
  cases o1 with
  | @l _ _ vs ds Ai ga ha hz oi =>
    cases di with
    | int i =>
      obtain ⟨hr, hf⟩ := ite_some2 hf
      obtain ⟨j, hj, hf⟩ := Option.bind_eq_some_iff.mp hf
      obtain ⟨x, hx, hf⟩ := Option.map_eq_some_iff.mp hf
      cases hf
      have len : vs.length = ds.length := by have := (ownA_len oi).2; simpa using this
      obtain ⟨v, Aj, A0, e1, oj, o0, pj⟩ := ownA_erase (ds := ds) (vs := vs.map some) oi hx
      rw [List.getElem?_map] at e1
      obtain ⟨w, hw, e2⟩ := Option.map_eq_some_iff.mp e1
      subst e2
      refine ev fun H1 s1 => ⟨.inl ⟨rfl, _, .inl (.inl (s1 _ _ ha))⟩, hi (stt_grow st s1).2 h2 fun H2 y s2 qy => ?_⟩
      cases qy
      have s12 := s1.trans s2
      refine ⟨a, vs, i, j, w, rfl, rfl, s12 _ _ ha, hr.1, hr.2, by rw [len]; exact (ixN_seq hj).1, hw, ?_⟩
      have nd := hp1.nodup_iff.mp st.nd
      have n := List.nodup_append.mp nd
      have n1 := List.nodup_cons.mp n.1
      have n2 := List.nodup_append.mp (pj.nodup_iff.mp n1.2)
      have inI : ∀ b, b ∈ Aj ++ A0 → b ∈ Ai := fun b hb => pj.mem_iff.mpr hb
      have hfr : ∀ b ∈ Ai, upd H2 a (.lst (vs.eraseIdx j)) b = H b := fun b hb => by
        obtain ⟨_, o, ho⟩ := ownA_at oi b hb
        have hne : b ≠ a := fun z => n1.1 (by rw [← z]; exact hb)
        rw [upd_ne hne, s12 b o ho, ho]
      have gfr : ∀ b ∈ Ai, G b = none := fun b hb => (ownA_at oi b hb).1
      have hjl : j < ds.length := (List.getElem?_eq_some_iff.mp hx).1
      have evr : (vs.map some).eraseIdx j = (vs.eraseIdx j).map some := by
        rw [List.eraseIdx_eq_take_drop_succ, List.eraseIdx_eq_take_drop_succ, List.map_append, List.map_take, List.map_drop]
      rw [evr] at o0
      have oN : Own K G (upd H2 a (.lst (vs.eraseIdx j))) (.l t) (.list (ds.eraseIdx j)) (some (.ref a)) (a :: A0) := .l ga upd_same (by have := len_erase vs j; omega) (by
        rw [List.length_eraseIdx, if_pos hjl]
        exact ownA_fr o0 (Same.refl G) (fun b hb => gfr b (inI b (List.mem_append_right _ hb))) fun b hb => hfr b (inI b (List.mem_append_right _ hb)))
      obtain ⟨A2, s3, st3, inA⟩ := pl_wrote (u := .lst (vs.eraseIdx j)) (Ad' := a :: A0) st hp1 o1' back s12 (List.mem_cons_self ..) oN (fun b hb => by
        rcases List.mem_cons.mp hb with z | z
        · rw [z]; exact List.mem_cons_self ..
        · exact List.mem_cons_of_mem _ (inI b (List.mem_append_right _ z))) (List.nodup_cons.mpr ⟨fun z => n1.1 (inI _ (List.mem_append_right _ z)), n2.2.1⟩)
      have oj2 := own_fr (H' := upd H2 a (.lst (vs.eraseIdx j))) oj (Same.refl G) (fun b hb => gfr b (inI b (List.mem_append_left _ hb))) fun b hb => hfr b (inI b (List.mem_append_left _ hb))
      refine k G _ w Aj A2 ⟨s3.sg, s3.fr, fun b hb => ?_, s3.gnew⟩ st3 oj2 ?_
      · rcases List.mem_append.mp hb with z | z
        · exact .inl (hp1.mem_iff.mpr (List.mem_append_left _ (List.mem_cons_of_mem _ (inI b (List.mem_append_left _ z)))))
        · exact s3.own b z
      · refine List.nodup_append.mpr ⟨n2.1, st3.nd, fun x hx y hy z => ?_⟩
        subst z
        rcases List.mem_append.mp (inA x hy) with q | q
        · rcases List.mem_cons.mp q with q | q
          · exact n1.1 (q ▸ inI x (List.mem_append_left _ hx))
          · exact n2.2.2 x hx x q rfl
        · exact n.2.2 x (List.mem_cons_of_mem _ (inI x (List.mem_append_left _ hx))) x q rfl
    | _ => cases hf
end
end DL

namespace DL
open PySem L2 PySem.Spec

section
variable {K : PySem.W.Frag} {G H G1 H1 : Hp} {m m1 m2 mn : List Ty} {σ : St} {e : En} {A A1 : List Addr} {t : Ty} {ts : List Ty} {M : Mk}
/-- a list at a place is rewritten, a new value moved in -/
theorem pl_wrote2 {a : Addr} {Av Ad Ar Ad' : List Addr} {pt : Pf} {ty tv : Ty} {d d' dv : PyData} {v : Option V} {H2 : Hp} {u : HO} (s1 : Step A G H (Av ++ A1) G1 H1) (st : Stt K m G1 H1 σ e A1) (ov : Own K G1 H1 tv dv v Av) (ndv : (Av ++ A1).Nodup) (hp : A1.Perm (Ad ++ Ar)) (o1 : Own K G1 H1 ty d (some (.ref a)) Ad)
    (back : ∀ {G' H' : Hp} {d' : PyData} {Ad' : List Addr}, Same G1 G' → Own K G' H' ty d' (some (.ref a)) Ad' → (∀ b ∈ Ar, H' b = H1 b ∧ G' b = none) → ∃ A', OwnA K G' H' m (pt e d') σ A' ∧ A'.Perm (Ad' ++ Ar))
    (s : Same H1 H2) (hin : a ∈ Ad) (o2 : Own K G1 (upd H2 a u) ty d' (some (.ref a)) Ad') (sub : ∀ b ∈ Ad', b ∈ Av ∨ b ∈ Ad) (nd' : Ad'.Nodup) :
    ∃ A', Step A G H A' G1 (upd H2 a u) ∧ Stt K m G1 (upd H2 a u) σ (pt e d') A' := by
  have nv := List.nodup_append.mp ndv
  have nd := hp.nodup_iff.mp nv.2.1
  have n := List.nodup_append.mp nd
  have ga : G1 a = none := (own_at o1 a hin).1
  have haA : a ∈ A1 := hp.mem_iff.mpr (List.mem_append_left _ hin)
  obtain ⟨A', oA, pA⟩ := back (Same.refl G1) o2 fun b hb => by
    have hbA := hp.mem_iff.mpr (List.mem_append_right Ad hb)
    obtain ⟨gb, o, ho⟩ := ownA_at st.own b hbA
    have hne : b ≠ a := fun z => n.2.2 a hin b hb z.symm
    refine ⟨?_, gb⟩
    rw [upd_ne hne, s b o ho, ho]
  have ndA : A'.Nodup := pA.nodup_iff.mpr (List.nodup_append.mpr ⟨nd', n.2.1, fun x hx y hy z => by
    rcases sub x hx with q | q
    · exact nv.2.2 x q y (hp.mem_iff.mpr (List.mem_append_right _ hy)) z
    · exact n.2.2 x q y hy z⟩)
  have inA : ∀ b ∈ A', b ∈ Av ++ A1 := fun b hb => by
    rcases List.mem_append.mp (pA.mem_iff.mp hb) with z | z
    · rcases sub b z with q | q
      · exact List.mem_append_left _ q
      · exact List.mem_append_right _ (hp.mem_iff.mpr (List.mem_append_left _ q))
    · exact List.mem_append_right _ (hp.mem_iff.mpr (List.mem_append_right _ z))
  refine ⟨A', ⟨s1.sg, fun b o hb hbA => ?_, fun b hb => s1.own b (inA b hb), s1.gnew⟩, ⟨oA, ndA, fun b o hb => ?_⟩⟩
  · have hne : b ≠ a := fun z => by
      rcases s1.own a (List.mem_append_right _ haA) with q | q
      · exact hbA (by rw [z]; exact q)
      · rw [← z, hb] at q; cases q
    rw [upd_ne hne]; exact s b o (s1.fr b o hb hbA)
  · rw [upd_ne (ne_of_none hb ga)]; exact s b o (st.sub b o hb)
theorem own_set {n j : Nat} {ts : List Ty} {ds : List PyData} {vs : List V} {Ai Av : List Addr} {dx : PyData} {x : V} {H3 : Hp} (oi : OwnA K G H ts ds (vs.map some) Ai) (ht : ts[j]? = some t) (ov : Own K G H t dx (some x) Av)
    (hf : ∀ b ∈ Ai, H3 b = H b) (hv : ∀ b ∈ Av, H3 b = H b) : ∃ A2, OwnA K G H3 ts (ds.set j dx) ((vs.set j x).map some) A2 ∧ ∃ A0 Aj : List Addr, A2.Perm (Av ++ A0) ∧ Ai.Perm (Aj ++ A0) := by
  obtain ⟨d0, v0, Aj, A0, e1, e2, oj, oR, pj⟩ := ownA_take oi ht
  have hu : (ts.set j .u)[j]? = some .u := by rw [List.getElem?_set_self (List.getElem?_eq_some_iff.mp ht).1]
  have inI : ∀ b ∈ A0, b ∈ Ai := fun b hb => pj.mem_iff.mpr (List.mem_append_right _ hb)
  obtain ⟨A2, o2, p2⟩ := ownA_put (ownA_fr (H' := H3) oR (Same.refl G) (fun b hb => (ownA_at oi b (inI b hb)).1) fun b hb => hf b (inI b hb)) hu (own_fr (H' := H3) ov (Same.refl G) (fun b hb => (own_at ov b hb).1) hv)
  rw [List.set_set, set_id ht] at o2
  exact ⟨A2, by rw [List.map_set]; exact o2, A0, Aj, p2, pj⟩
theorem DS.setL {tv to ti : TE} {f : Ef} {g gi : Gq} {pt : Pf} (hv : DE K m tv t f m1) (hp : DPl K m1 to (.l t) g pt) (hi : DQv K m1 ti gi) (pn : ∀ {σ : St}, Pin M.po σ σ) : DS K M m (tAsg tv (L2.gSub to ti rSetL)) (sSet g pt gi f) m1 := by
  intro G H σ e A o e' D st hf k
  obtain ⟨⟨dx, e1⟩, hf0, hf⟩ := Option.bind_eq_some_iff.mp hf
  obtain ⟨dl, h1, hf⟩ := Option.bind_eq_some_iff.mp hf
  obtain ⟨di, h2, hf⟩ := Option.bind_eq_some_iff.mp hf
  refine hv st hf0 fun G1 H1 x Av A1 s1 st1 ov ndv => ?_
  obtain ⟨a, Ad, Ar, hp1, o1, ev, back⟩ := hp st1 h1
  have o1' := o1
  cases o1 with
  | @l _ _ vs ds Ai ga ha hz oi =>
    cases di with
    | int i =>
      obtain ⟨j, hj, hf⟩ := Option.map_eq_some_iff.mp hf
      cases hf
      have len : vs.length = ds.length := by have := (ownA_len oi).2; simpa using this
      have hjl : j < ds.length := (ixN_seq hj).2.1
      refine ev fun H2 sH2 => hi (stt_grow st1 sH2).2 h2 fun H3 y sH3 qy => ?_
      cases qy
      have s13 := sH2.trans sH3
      refine ⟨a, vs, i, j, rfl, rfl, s13 _ _ ha, by rw [len]; exact hj, ?_⟩
      have nv := List.nodup_append.mp ndv
      have nd := hp1.nodup_iff.mp nv.2.1
      have n := List.nodup_append.mp nd
      have n1 := List.nodup_cons.mp n.1
      have haA : a ∈ A1 := hp1.mem_iff.mpr (List.mem_append_left _ (List.mem_cons_self ..))
      have fr1 : ∀ b, b ≠ a → (∃ o, H1 b = some o) → upd H3 a (.lst (vs.set j x)) b = H1 b := fun b hb ⟨o, ho⟩ => by rw [upd_ne hb, s13 b o ho, ho]
      obtain ⟨A2, o2, A0, Aj, p2, pj⟩ := own_set (n := 0) (H3 := upd H3 a (.lst (vs.set j x))) oi (repl_get hjl) ov (fun b hb => fr1 b (fun z => n1.1 (by rw [← z]; exact hb)) (ownA_at oi b hb).2)
        (fun b hb => fr1 b (fun z => nv.2.2 b hb a haA z) (own_at ov b hb).2)
      have nj := List.nodup_append.mp (pj.nodup_iff.mp n1.2)
      have in2 : ∀ b ∈ A2, b ∈ Av ∨ b ∈ Ai := fun b hb => (List.mem_append.mp (p2.mem_iff.mp hb)).imp id fun z => pj.mem_iff.mpr (List.mem_append_right _ z)
      have nd2 : A2.Nodup := p2.nodup_iff.mpr (List.nodup_append.mpr ⟨nv.1, nj.2.1, fun x hx y hy z => nv.2.2 x hx y (hp1.mem_iff.mpr (List.mem_append_left _ (List.mem_cons_of_mem _ (pj.mem_iff.mpr (List.mem_append_right _ hy))))) z⟩)
      obtain ⟨A', s4, st4⟩ := pl_wrote2 (u := .lst (vs.set j x)) (Ad' := a :: A2) s1 st1 ov ndv hp1 o1' back s13 (List.mem_cons_self ..) (.l ga upd_same (by rw [List.length_set]; exact hz) (by rw [List.length_set]; exact o2)) (fun b hb => by
        rcases List.mem_cons.mp hb with z | z
        · rw [z]; exact .inr (List.mem_cons_self ..)
        · exact (in2 b z).imp id fun z => List.mem_cons_of_mem _ z) (List.nodup_cons.mpr ⟨fun z => by
          rcases in2 a z with q | q
          · exact nv.2.2 a q a haA rfl
          · exact n1.1 q, nd2⟩)
      exact k G1 _ σ A' s4 st4 pn
    | _ => cases hf
theorem DS.setR {tv to ti : TE} {f : Ef} {g gi : Gq} {pt : Pf} {c : Nat} (hv : DE K m tv t f m1) (hp : DPl K m1 to (.r ts) g pt) (hi : DQv K m1 ti gi) (hc : ∀ e, gi e = some (.int (c : Nat))) (ht : ts[c]? = some t) (pn : ∀ {σ : St}, Pin M.po σ σ) : DS K M m (tAsg tv (L2.gSub to ti rSetL)) (sSet g pt gi f) m1 := by
  intro G H σ e A o e' D st hf k
  obtain ⟨⟨dx, e1⟩, hf0, hf⟩ := Option.bind_eq_some_iff.mp hf
  obtain ⟨dl, h1, hf⟩ := Option.bind_eq_some_iff.mp hf
  obtain ⟨di, h2, hf⟩ := Option.bind_eq_some_iff.mp hf
  refine hv st hf0 fun G1 H1 x Av A1 s1 st1 ov ndv => ?_
  obtain ⟨a, Ad, Ar, hp1, o1, ev, back⟩ := hp st1 h1
  have o1' := o1
  cases o1 with
  | @r _ _ vs ds Ai ga ha hz oi =>
    rw [hc] at h2; cases h2
    obtain ⟨j, hj, hf⟩ := Option.map_eq_some_iff.mp hf
    cases hf
    have hjk : j = c := by
      have q := ixN_seq hj
      have q1 := q.1
      rw [seqIndex_of (by omega) (by omega)] at q1
      have := Option.some.inj q1
      omega
    subst hjk
    have len : vs.length = ds.length := by have := (ownA_len oi).2; simpa using this
    refine ev fun H2 sH2 => hi (stt_grow st1 sH2).2 (hc e1) fun H3 y sH3 qy => ?_
    cases qy
    have s13 := sH2.trans sH3
    refine ⟨a, vs, _, j, rfl, rfl, s13 _ _ ha, by rw [len]; exact hj, ?_⟩
    have nv := List.nodup_append.mp ndv
    have nd := hp1.nodup_iff.mp nv.2.1
    have n := List.nodup_append.mp nd
    have n1 := List.nodup_cons.mp n.1
    have haA : a ∈ A1 := hp1.mem_iff.mpr (List.mem_append_left _ (List.mem_cons_self ..))
    have fr1 : ∀ b, b ≠ a → (∃ o, H1 b = some o) → upd H3 a (.lst (vs.set j x)) b = H1 b := fun b hb ⟨o, ho⟩ => by rw [upd_ne hb, s13 b o ho, ho]
    obtain ⟨A2, o2, A0, Aj, p2, pj⟩ := own_set (n := 0) (H3 := upd H3 a (.lst (vs.set j x))) oi ht ov (fun b hb => fr1 b (fun z => n1.1 (by rw [← z]; exact hb)) (ownA_at oi b hb).2)
      (fun b hb => fr1 b (fun z => nv.2.2 b hb a haA z) (own_at ov b hb).2)
    have nj := List.nodup_append.mp (pj.nodup_iff.mp n1.2)
    have in2 : ∀ b ∈ A2, b ∈ Av ∨ b ∈ Ai := fun b hb => (List.mem_append.mp (p2.mem_iff.mp hb)).imp id fun z => pj.mem_iff.mpr (List.mem_append_right _ z)
    have nd2 : A2.Nodup := p2.nodup_iff.mpr (List.nodup_append.mpr ⟨nv.1, nj.2.1, fun x hx y hy z => nv.2.2 x hx y (hp1.mem_iff.mpr (List.mem_append_left _ (List.mem_cons_of_mem _ (pj.mem_iff.mpr (List.mem_append_right _ hy))))) z⟩)
    obtain ⟨A', s4, st4⟩ := pl_wrote2 (u := .lst (vs.set j x)) (Ad' := a :: A2) s1 st1 ov ndv hp1 o1' back s13 (List.mem_cons_self ..) (.r ga upd_same (by rw [List.length_set]; exact hz) o2) (fun b hb => by
      rcases List.mem_cons.mp hb with z | z
      · rw [z]; exact .inr (List.mem_cons_self ..)
      · exact (in2 b z).imp id fun z => List.mem_cons_of_mem _ z) (List.nodup_cons.mpr ⟨fun z => by
        rcases in2 a z with q | q
        · exact nv.2.2 a q a haA rfl
        · exact n1.1 q, nd2⟩)
    exact k G1 _ σ A' s4 st4 pn
/-- a stable item of an owned list -/
theorem DE.itm {te ti : TE} {g gi : Gq} {pt : Pf} (hp : DPl K m te (.l .s) g pt) (hi : DQv K m ti gi) : DE K m (tOp (rIxL K) te ti) .s (eItm g gi) m := by
  intro G H σ e A d e' Q st hf k
  obtain ⟨dl, h1, hf⟩ := Option.bind_eq_some_iff.mp hf
  obtain ⟨di, h2, hf⟩ := Option.bind_eq_some_iff.mp hf
  obtain ⟨a, Ad, Ar, hp1, o1, ev, back⟩ := hp st h1
  cases o1 with
  | @l _ _ vs ds Ai ga ha hz oi =>
    cases di with
    | int i =>
      obtain ⟨x, hx, hf⟩ := Option.map_eq_some_iff.mp hf
      cases hf
      obtain ⟨j, hj, hx⟩ := Option.bind_eq_some_iff.mp (show (ixN ds.length i).bind _ = _ from hx)
      obtain ⟨rfl, qi⟩ := of_ownA oi
      obtain ⟨v, hv, qv⟩ := qi.get hx
      refine ev fun H1 s1 => hi (stt_grow st s1).2 h2 fun H2 y s2 qy => ?_
      cases qy
      have s12 := s1.trans s2
      exact ⟨a, vs, i, v, rfl, rfl, .inl (.inl (s12 _ _ ha)), by unfold atI; rw [qi.1, hj]; exact hv, k G H2 v [] A (stt_grow st s12).1 (stt_grow st s12).2 (.s qv) st.nd⟩
    | _ => cases hf
end
section
variable {ι : Type} {Xf : ι → Cx} {P : Program} {w : World} {K : PySem.W.Frag} {mg : Str → Option Value} {base : Heap} {n : Nat} [F : Fam Xf P w K mg base n]
variable {M : Mk} {m m1 m2 mn ml : List Ty} {pos p p2 spos apos cpos : Pos} {a b c v o i : Expr} {f : Ef} {g gi gv : Gq} {pt : Pf} {t ty : Ty} {ts : List Ty}
include F
theorem pd_itm (hp : PPl Xf K m a (.l .s) g pt) (hi : PQ Xf K m b gi) (hs : PlainIx b := by exact fun _ _ => rfl) : PD Xf K m (.Subscript a b pos) .s (eItm g gi) m := by
  obtain ⟨ta, pa, da⟩ := hp.ex
  obtain ⟨tb, pb, db⟩ := hi.ex
  exact ⟨_, fun i => by have := pe_ix (ix_list (X := Xf i)) (pa i) (pb i) hs (pos := pos); rw [F.kk i] at this; exact this, DE.itm da db⟩
theorem pd_app (j : Nat) {x : Str} {xp : Pos} (hv0 : PD Xf K (m.set j .u) v t f m1) (hm : m[j]? = some (.l t) := by rfl) (hm1 : m1[j]? = some .u := by rfl) (hN : ∀ i, (Xf i).N[j]? = some x := by intro _; rfl)
    (hv : ∀ i, Vis (Xf i).env.scope x := by first | (intro _; exact Or.inl rfl) | (intro _; exact Or.inr (Or.inl rfl)) | (intro _; exact Or.inr (Or.inr rfl))) (hd : (x == ("__debug__" : Str)) = false := by decide) (hcd : (x == ("__classdict__" : Str)) = false := by decide)
    (hbase : ∀ i, attributeBase (.Name x xp) "append" (Xf i).env (eval (.Name x xp) (Xf i).env) = eval (.Name x xp) (Xf i).env := by intro _; rfl)
    (hfew : ∀ i, ((backTo cpos (starEach [v] (Xf i).env)).all (fun x => !x.1) && (backToKw cpos (keywordEach [] (Xf i).env)).all (fun x => x.1.isSome)
      && decide ([v].length + ([] : List Keyword).length + (if ([] : List Keyword).isEmpty then 0 else 1) < 30)) = true := by intro _; rfl)
    (hline : (apos.endLine == cpos.line) = true := by rfl) (hs : ∀ i, starEach [v] (Xf i).env = (false, eval v (Xf i).env) :: starEach [] (Xf i).env := by intro _; rfl) (hplain : ∀ i, (backTo cpos (starEach [] (Xf i).env)).any (·.1) = false := by intro _; rfl) :
    PD Xf K m (.Call (.Attribute (.Name x xp) "append" apos) [v] [] cpos) .s (eApp j f) (m1.set j (.l t)) := by
  obtain ⟨tv, pv, dv⟩ := hv0.ex
  exact ⟨_, fun i => by have := pe_bm PySem.F.plainAttrs_list PySem.F.slot_list_append PySem.F.type_list_append (mt_append (X := Xf i)) (pe_var (hN i) (hv i) hd hcd) (pa_cons (pv i) pa_nil (hs i)) (hbase i) (hfew i) hline (hs i) (hplain i); rw [F.kk i] at this; exact this, DE.app hm dv hm1⟩
theorem pd_appV (hp : PPl Xf K m o (.l .s) g pt) (hv0 : PV Xf K m v gv)
    (hbase : ∀ i, attributeBase o "append" (Xf i).env (eval o (Xf i).env) = eval o (Xf i).env := by intro _; rfl)
    (hfew : ∀ i, ((backTo cpos (starEach [v] (Xf i).env)).all (fun x => !x.1) && (backToKw cpos (keywordEach [] (Xf i).env)).all (fun x => x.1.isSome)
      && decide ([v].length + ([] : List Keyword).length + (if ([] : List Keyword).isEmpty then 0 else 1) < 30)) = true := by intro _; rfl)
    (hline : (apos.endLine == cpos.line) = true := by rfl) (hs : ∀ i, starEach [v] (Xf i).env = (false, eval v (Xf i).env) :: starEach [] (Xf i).env := by intro _; rfl) (hplain : ∀ i, (backTo cpos (starEach [] (Xf i).env)).any (·.1) = false := by intro _; rfl) :
    PD Xf K m (.Call (.Attribute o "append" apos) [v] [] cpos) .s (eAppV g pt gv) m := by
  obtain ⟨ta, pa, da⟩ := hp.ex
  obtain ⟨tv, pv, dv⟩ := hv0.ex
  exact ⟨_, fun i => by have := pe_bm PySem.F.plainAttrs_list PySem.F.slot_list_append PySem.F.type_list_append (mt_append (X := Xf i)) (pa i) (pa_cons (pv i) pa_nil (hs i)) (hbase i) (hfew i) hline (hs i) (hplain i); rw [F.kk i] at this; exact this, DE.appV da dv⟩
theorem pd_pop (hp : PPl Xf K m o (.l t) g pt) (hbase : ∀ i, attributeBase o "pop" (Xf i).env (eval o (Xf i).env) = eval o (Xf i).env := by intro _; rfl) (hline : (apos.endLine == cpos.line) = true := by rfl) :
    PD Xf K m (.Call (.Attribute o "pop" apos) [] [] cpos) t (ePop g pt) m := by
  obtain ⟨ta, pa, da⟩ := hp.ex
  exact ⟨_, fun i => by have := pe_bm0 PySem.F.plainAttrs_list PySem.F.slot_list_pop PySem.F.type_list_pop (mt_pop (X := Xf i)) (pa i) (hbase i) hline; rw [F.kk i] at this; exact this, DE.pop da⟩
theorem pd_popAt (hp : PPl Xf K m o (.l t) g pt) (hi : PQ Xf K m v gi) (hbase : ∀ i, attributeBase o "pop" (Xf i).env (eval o (Xf i).env) = eval o (Xf i).env := by intro _; rfl)
    (hfew : ∀ i, ((backTo cpos (starEach [v] (Xf i).env)).all (fun x => !x.1) && (backToKw cpos (keywordEach [] (Xf i).env)).all (fun x => x.1.isSome)
      && decide ([v].length + ([] : List Keyword).length + (if ([] : List Keyword).isEmpty then 0 else 1) < 30)) = true := by intro _; rfl)
    (hline : (apos.endLine == cpos.line) = true := by rfl) (hs : ∀ i, starEach [v] (Xf i).env = (false, eval v (Xf i).env) :: starEach [] (Xf i).env := by intro _; rfl) (hplain : ∀ i, (backTo cpos (starEach [] (Xf i).env)).any (·.1) = false := by intro _; rfl) :
    PD Xf K m (.Call (.Attribute o "pop" apos) [v] [] cpos) t (ePopAt g pt gi) m := by
  obtain ⟨ta, pa, da⟩ := hp.ex
  obtain ⟨tv, pv, dv⟩ := hi.ex
  exact ⟨_, fun i => by have := pe_bm PySem.F.plainAttrs_list PySem.F.slot_list_pop PySem.F.type_list_pop (mt_popAt (X := Xf i)) (pa i) (pa_cons (pv i) pa_nil (hs i)) (hbase i) (hfew i) hline (hs i) (hplain i); rw [F.kk i] at this; exact this, DE.popAt da dv⟩
theorem ds_setL (hv : PD Xf K m v t f m1) (hp : PPl Xf K m1 o (.l t) g pt) (hi : PQ Xf K m1 i gi)
    (ha : ∀ z v, assign (.Subscript o i pos) (Xf z).env v = (do
      let ov ← holding [v] (eval o (Xf z).env)
      let iv ← holding [v, ov] (eval i (Xf z).env)
      standAt pos
      holding [v, ov, iv] (setItem ov iv v)
      release [v, ov, iv] []) := by intro _ _; rfl)
    (hs : ∀ z, swapsWithSole [.Subscript o i pos] v spos.line (Xf z).env = pure false := by intro _; rfl) (hw : ∀ z, swappedStores [.Subscript o i pos] v (Xf z).env = pure none := by intro _; rfl)
    (h1 : ∀ z, (assignEach [.Subscript o i pos] (Xf z).env).map (·.2) = [assign (.Subscript o i pos) (Xf z).env] := by intro _; rfl) : PSd Xf K M m (.Assign [.Subscript o i pos] v spos) (sSet g pt gi f) m1 := by
  obtain ⟨tv, pv, dv⟩ := hv.ex
  obtain ⟨ta, pa, da⟩ := hp.ex
  obtain ⟨tb, pb, db⟩ := hi.ex
  exact ⟨_, fun z => ps_asg (pv z) (pg_sub (pa z) (pb z) set_list (ha z)) (hs z) (hw z) (h1 z), DS.setL dv da db Pin.refl⟩
theorem ds_setR (c : Nat) {ci : Int} {cj} (hv : PD Xf K m v t f m1) (hp : PPl Xf K m1 o (.r ts) g pt) (hc : ci = (c : Nat) := by rfl) (ht : ts[c]? = some t := by rfl)
    (ha : ∀ z v, assign (.Subscript o (.Constant (.int ci) cj p) pos) (Xf z).env v = (do
      let ov ← holding [v] (eval o (Xf z).env)
      let iv ← holding [v, ov] (eval (.Constant (.int ci) cj p) (Xf z).env)
      standAt pos
      holding [v, ov, iv] (setItem ov iv v)
      release [v, ov, iv] []) := by intro _ _; rfl)
    (hs : ∀ z, swapsWithSole [.Subscript o (.Constant (.int ci) cj p) pos] v spos.line (Xf z).env = pure false := by intro _; rfl) (hw : ∀ z, swappedStores [.Subscript o (.Constant (.int ci) cj p) pos] v (Xf z).env = pure none := by intro _; rfl)
    (h1 : ∀ z, (assignEach [.Subscript o (.Constant (.int ci) cj p) pos] (Xf z).env).map (·.2) = [assign (.Subscript o (.Constant (.int ci) cj p) pos) (Xf z).env] := by intro _; rfl) : PSd Xf K M m (.Assign [.Subscript o (.Constant (.int ci) cj p) pos] v spos) (sSet g pt (qC (.int ci)) f) m1 := by
  obtain ⟨tv, pv, dv⟩ := hv.ex
  obtain ⟨ta, pa, da⟩ := hp.ex
  obtain ⟨tb, pb, db⟩ := (pq_int (Xf := Xf) (K := K) (m := m1) (i := ci) (j := cj) (pos := p)).ex
  exact ⟨_, fun z => ps_asg (pv z) (pg_sub (pa z) (pb z) set_list (ha z)) (hs z) (hw z) (h1 z), DS.setR dv da db (fun e => by subst hc; rfl) ht Pin.refl⟩
end
end DL

namespace DL
open PySem L2 PySem.Spec

/-! ### the script -/
section
variable {ι : Type} {Xf : ι → Cx} {P : Program} {w : World} {K : PySem.W.Frag} {mg : Str → Option Value} {base : Heap} {n : Nat} [F : Fam Xf P w K mg base n]
variable {m m1 m2 m3 : List Ty} {pos p p2 : Pos} {a b c tg : Expr} {f g h : Ef}
theorem own_q {K : PySem.W.Frag} {G H : Hp} {d : PyData} {v : Option V} {A : List Addr} (o : Own K G H .q d v A) : A = [] ∧ ∃ (a : Addr) (ns : List Int), v = some (.ref a) ∧ d = .list (ns.map .int) ∧ SqL K G a (ns.map V.int) ∧ ns.length ≤ sizeLine := by
  cases o with
  | q h hz => exact ⟨rfl, _, _, rfl, rfl, h, hz⟩
theorem dqA_nums {K : PySem.W.Frag} {G : Hp} : ∀ ns : List Int, DqA K G (ns.map V.int) (ns.map PyData.int)
  | [] => DqA.nil
  | i :: ns => DqA.cons (.int i) (dqA_nums ns)
theorem walkD_q {K : PySem.W.Frag} {G : Hp} {a : Addr} {ns : List Int} (h : SqL K G a (ns.map V.int)) : WalkS K G (Itl K a) (ns.map PyData.int) := by
  refine ⟨fun i H hi s => ?_, fun H s => ⟨_, same_seqL s h, by simp⟩, fun {i H x H' m G' σ e A} hi s st y => ?_⟩
  · rw [List.length_map] at hi
    exact ⟨_, .int ns[i], same_seqL s h, by rw [List.getElem?_map, List.getElem?_eq_getElem hi]; rfl⟩
  · obtain ⟨rfl, y⟩ := y
    refine ⟨G', Step.refl, st, Same.refl _, fun d hd => ?_⟩
    exact ((dqA_nums (K := K) (G := G) ns).2 i x d (y _ (same_seqL (s.trans st.sub) h)) hd).mono s
include F in
theorem pi_q (j : Nat) {x : Str} (hm : m[j]? = some .q := by rfl) (hN : ∀ i, (Xf i).N[j]? = some x := by intro _; rfl)
    (hv : ∀ i, Vis (Xf i).env.scope x := by first | (intro _; exact Or.inl rfl) | (intro _; exact Or.inr (Or.inl rfl)) | (intro _; exact Or.inr (Or.inr rfl))) (hd : (x == ("__debug__" : Str)) = false := by decide)
    (hcd : (x == ("__classdict__" : Str)) = false := by decide) : PIt Xf K false m tg (.Name x pos) (iSeq (eVar j)) m := by
  refine ⟨_, fun i => (by have := pi_list (tg := tg) (pe_var (X := Xf i) (pos := pos) (hN i) (hv i) hd hcd); rw [F.kk i] at this; exact this), fun {G H σ e A ds e' R} st hf k => ?_⟩
  obtain ⟨d', v, Aj, A0, h1, h2, h3, _, _⟩ := ownA_take st.own hm
  obtain ⟨_, a, ns, rfl, rfl, hq, hz⟩ := own_q h3
  have hf : (seqD (e.getD j .none)).bind (fun ds => some (ds, e)) = some (ds, e') := hf
  rw [List.getD_eq_getElem?_getD, h1] at hf
  cases hf
  exact ⟨.ref a, h2, a, rfl, ⟨_, same_seqL st.sub hq⟩, k G H A _ Step.refl st (walkD_q hq).d (by rw [List.length_map]; exact hz)⟩
/-- len(script) -/
def eLenQ (j : Nat) : Ef := fun e => match e.getD j .none with
  | .list ds => some (.int ds.length, e)
  | _ => none
include F in
theorem pd_lenQ (j : Nat) {x : Str} (hml : mg "len" = none) (hm : m[j]? = some .q := by rfl) (hN : ∀ i, (Xf i).N[j]? = some x := by intro _; rfl)
    (hv : ∀ i, Vis (Xf i).env.scope x := by first | (intro _; exact Or.inl rfl) | (intro _; exact Or.inr (Or.inl rfl)) | (intro _; exact Or.inr (Or.inr rfl))) (hd : (x == ("__debug__" : Str)) = false := by decide)
    (hcd : (x == ("__classdict__" : Str)) = false := by decide) (hg : ∀ i, Gl (Xf i) "len" := by intro _; rfl) (he : ∀ i, starEach [.Name x p2] (Xf i).env = (false, eval (.Name x p2) (Xf i).env) :: starEach [] (Xf i).env := by intro _; rfl) (hpl : ∀ i, (backTo pos (starEach [] (Xf i).env)).any (·.1) = false := by intro _; rfl) :
    PD Xf K m (.Call (.Name "len" p) [.Name x p2] [] pos) .s (eLenQ j) m := by
  refine ⟨_, fun i => (by have := pe_callB (X := Xf i) (pos := pos) (p := p) (call_len_seq (X := Xf i)) (hg i) (by rw [F.mg_ i]; exact hml) bt_len (pa_cons (pe_var (pos := p2) (hN i) (hv i) hd hcd) pa_nil (he i)) (by decide) (by decide) (he i) (hpl i); rw [F.kk i] at this; exact this), fun {G H σ e A d e' Q} st hf k => ?_⟩
  obtain ⟨d', v, Aj, A0, h1, h2, h3, _, _⟩ := ownA_take st.own hm
  obtain ⟨_, a, ns, rfl, rfl, hq, hz⟩ := own_q h3
  unfold eLenQ at hf
  rw [List.getD_eq_getElem?_getD, h1] at hf
  cases hf
  refine ⟨.ref a, h2, a, _, rfl, .inl (same_seqL st.sub hq), ?_⟩
  have e : (((ns.map V.int).length : Nat) : Int) = (((ns.map PyData.int).length : Nat) : Int) := by rw [List.length_map, List.length_map]
  rw [e]
  exact ans_s st (.int _) k
def eSlQ (j : Nat) (lo hi : Option Int) : Ef := fun e => (gSlL (e.getD j .none) lo hi).map fun d => (d, e)
end

/-! ### a def's body as a function of its arguments -/
def stb : Ty → Bool
  | .u => true
  | .s => true
  | .q => true
  | _ => false
inductive FinOk (po : List Nat) : Nat → List Ty → List Ty → Prop
  | nil (j : Nat) (m : List Ty) : FinOk po j [] m
  | stb {j : Nat} {t t' : Ty} {ts m : List Ty} : stb t = true → FinOk po (j + 1) ts m → FinOk po j (t :: ts) (t' :: m)
  | own {j : Nat} {t : Ty} {ts m : List Ty} : j ∈ po → FinOk po (j + 1) ts m → FinOk po j (t :: ts) (t :: m)
def fins : List Ty → List PyData → List PyData → List PyData
  | t :: ts, d :: ds, e :: es => (if stb t = true then d else e) :: fins ts ds es
  | _, _, _ => []
def runF (f : Sf) (ptys : List Ty) (r : Nat) : DFn := fun ds => (f (ds ++ List.replicate r .none)).bind fun p => match p.1 with
  | .rt d => some (d, fins ptys ds p.2)
  | .nx => some (.none, fins ptys ds p.2)
  | _ => none
section
variable {K : PySem.W.Frag} {G H G1 H1 : Hp}
theorem own_stb {t : Ty} {d : PyData} {v : Option V} {A : List Addr} (o : Own K G H t d v A) (h : stb t = true) : A = [] := by
  cases o with
  | u => rfl
  | s => rfl
  | q => rfl
  | d => cases h
  | e => cases h
  | k => cases h
  | a => cases h
  | l => cases h
  | r => cases h
theorem fin_own {po : List Nat} {σ0 σ : St} : ∀ {j : Nat} {ts m : List Ty} {ds e : List PyData} {vs : List (Option V)} {A0 A : List Addr} {τ : List (Option V)}, FinOk po j ts m → OwnA K G H ts ds vs A0 → Same G G1 → OwnA K G1 H1 m e τ A → (∀ i, τ[i]? = σ[j + i]?) → (∀ i v, vs[i]? = some v → σ0[j + i]? = some v) → Pin po σ0 σ → A.Nodup →
    ∃ A3, OwnA K G1 H1 ts (fins ts ds e) vs A3 ∧ A3.Nodup ∧ ∀ a ∈ A3, a ∈ A := by
  intro j ts
  induction ts generalizing j with
  | nil =>
    intro m ds e vs A0 A τ fo o0 sg o h1 h2 hp nd
    cases o0
    exact ⟨[], .nil, List.nodup_nil, fun a h => by cases h⟩
  | cons t ts ih =>
    intro m ds e vs A0 A τ fo o0 sg o h1 h2 hp nd
    cases o0 with
    | @cons _ _ d ds v vs B0 B1 p1 p2 =>
      have h2' : ∀ i x, vs[i]? = some x → σ0[j + 1 + i]? = some x := fun i x hx => by
        have := h2 (i + 1) x (by simpa using hx)
        rw [show j + 1 + i = j + (i + 1) by omega]; exact this
      cases fo with
      | stb hs fo =>
        cases o with
        | @cons _ _ d' ds' v' vs' C0 C1 q1 q2 =>
          have h1' : ∀ i, vs'[i]? = σ[j + 1 + i]? := fun i => by
            have := h1 (i + 1)
            rw [show j + 1 + i = j + (i + 1) by omega, ← this]; simp
          obtain ⟨A3, o3, n3, s3⟩ := ih fo p2 sg q2 h1' h2' hp (List.nodup_append.mp nd).2.1
          obtain rfl := own_stb p1 hs
          refine ⟨A3, ?_, n3, fun a ha => List.mem_append_right _ (s3 a ha)⟩
          unfold fins
          rw [if_pos hs]
          exact OwnA.cons (A := []) (own_fr p1 sg (fun a h => by cases h) fun a h => by cases h) o3
      | own hj fo =>
        cases o with
        | @cons _ _ d' ds' v' vs' C0 C1 q1 q2 =>
          have h1' : ∀ i, vs'[i]? = σ[j + 1 + i]? := fun i => by
            have := h1 (i + 1)
            rw [show j + 1 + i = j + (i + 1) by omega, ← this]; simp
          have n := List.nodup_append.mp nd
          obtain ⟨A3, o3, n3, s3⟩ := ih fo p2 sg q2 h1' h2' hp n.2.1
          have ev : v' = v := by
            have a := h1 0
            have b := h2 0 v rfl
            have c := hp j hj
            simp only [Nat.add_zero] at a b
            rw [← a, b] at c
            simpa using c
          subst ev
          by_cases hs : stb t = true
          · obtain rfl := own_stb p1 hs
            refine ⟨A3, ?_, n3, fun a ha => List.mem_append_right _ (s3 a ha)⟩
            unfold fins
            rw [if_pos hs]
            exact OwnA.cons (A := []) (own_fr p1 sg (fun a h => by cases h) fun a h => by cases h) o3
          · refine ⟨C0 ++ A3, ?_, List.nodup_append.mpr ⟨n.1, n3, fun a ha b hb z => n.2.2 a ha b (s3 b hb) z⟩, fun a ha => ?_⟩
            · unfold fins
              rw [if_neg hs]
              exact OwnA.cons q1 o3
            · rcases List.mem_append.mp ha with z | z
              · exact List.mem_append_left _ z
              · exact List.mem_append_right _ (s3 a z)
theorem ownA_us {ts : List Ty} {ds : List PyData} {vs : List (Option V)} {A : List Addr} (r : Nat) (h : OwnA K G H ts ds vs A) : OwnA K G H (ts ++ List.replicate r .u) (ds ++ List.replicate r .none) (vs ++ List.replicate r none) A := by
  induction ts generalizing ds vs A with
  | nil =>
    cases h
    simp only [List.nil_append]
    induction r with
    | zero => exact .nil
    | succ r ih => rw [List.replicate_succ, List.replicate_succ, List.replicate_succ]; exact OwnA.cons (A := []) (.u _ _) ih
  | cons t ts ih =>
    cases h with
    | cons h1 h2 => exact .cons h1 (ih h2)
end
theorem fnG_none {P : Program} {w : World} {K : PySem.W.Frag} {mg : Str → Option Value} {base : Heap} {k : Nat} {f : Addr} {fd : FuncData} {ps : List Str} {ptys : List Ty} {rty : Ty} : FnG P w K mg base k f fd ps (spD K ptys rty fun _ => none) :=
  ⟨fun vs H Q E ⟨ds, d, fs, G, A, h, _⟩ => (by cases h), fun A outer s H args us vs Q E _ _ _ _ _ ⟨ds, d, fs, G, A', h, _⟩ => (by cases h)⟩
/-- nothing falls off the end -/
def NoNx (f : Sf) : Prop := ∀ e e', f e ≠ some (.nx, e')
theorem nnx_ret {f : Ef} : NoNx (sRet f) := fun e e' h => by
  obtain ⟨p, _, h⟩ := Option.map_eq_some_iff.mp h
  cases h
theorem nnx_seq {f g : Sf} (h : NoNx g) : NoNx (sSeq f g) := fun e e' z => by
  obtain ⟨⟨o, e1⟩, _, z⟩ := Option.bind_eq_some_iff.mp z
  cases o with
  | nx => exact h _ _ z
  | bk => cases z
  | ct => cases z
  | rt d => cases z
/-- one context, as a family -/
abbrev oneX (X : Cx) : Unit → Cx := fun _ => X
theorem fam_one {P : Program} {w : World} {K : PySem.W.Frag} {mg : Str → Option Value} {base : Heap} {N ps : List Str} {qual : Str} {scope : Scope} {f : Addr} {cdv : Value} {A : Around} {outer : List Env} {s : Shared} {H : Hp} {E : XK} {n : Nat} (S : FnScope N ps scope)
    (hr : Room n (A.deeper (PyProof.Rows.envOfC qual scope s.heap.objs.size f cdv))) : Fam (oneX (cxOf CX0 P w K mg base N qual scope f cdv A outer s H E).nox) P w K mg base n :=
  ⟨fun _ => rfl, fun _ => rfl, fun _ => rfl, fun _ => rfl, fun _ => rfl, fun _ => hr.u, fun _ => S.nd⟩
/-- THE RULE for a def -/
theorem fnG_dl {P : Program} {w : World} {K : PySem.W.Frag} {mg : Str → Option Value} {base : Heap} {x qual : Str} {st : Stmt} {f : Addr} {fd : FuncData} {N ps : List Str} {k : Nat} {ptys : List Ty} {rty : Ty} {sf : Sf} {mr : List Ty} {po : List Nat} {r : Nat}
    (F : L2.Fun K x qual st f fd) (S : FnScope N ps (defScope st)) (hl : ptys.length = ps.length) (hr : N.length = ps.length + r) (fo : FinOk po 0 ptys mr) (hty : rty = .s ∨ ∀ e e', sf e ≠ some (.nx, e'))
    (hbody : ∀ (cdv : Value) (A : Around) (outer : List Env) (s : Shared) (H : Hp) (E : XK), Fam (oneX (cxOf CX0 P w K mg base N qual (defScope st) f cdv A outer s H E).nox) P w K mg base k → FamG (oneX (cxOf CX0 P w K mg base N qual (defScope st) f cdv A outer s H E).nox) → FamN (oneX (cxOf CX0 P w K mg base N qual (defScope st) f cdv A outer s H E).nox) →
      PSsd (oneX (cxOf CX0 P w K mg base N qual (defScope st) f cdv A outer s H E).nox) K ⟨[], [], mr, po, rty⟩ (ptys ++ List.replicate r .u) (defBody st) sf mr) : FnG P w K mg base (k + 1) f fd ps (spD K ptys rty (runF sf ptys r)) := by
  refine fnG_of F S (fun vs H Q E h => ?_) fun cdv A outer s H vs Q E room gd h => ?_
  · obtain ⟨ds, d, fs, G, A, _, o, _⟩ := h
    have := ownA_len o
    rw [List.length_map] at this
    omega
  · obtain ⟨ds, d, fs, G, A0, hF, o0, nd, sub, kont⟩ := h
    have ln := ownA_len o0
    rw [List.length_map] at ln
    obtain ⟨t, pt, dt⟩ := (hbody cdv A outer s H E (fam_one S room) ⟨fun _ => gd, fun _ => rfl, fun _ => room.hd⟩ ⟨fun _ => PassesOwn.never⟩).ex
    refine ⟨t, pt (), ?_⟩
    obtain ⟨⟨o, e'⟩, h1, h2⟩ := Option.bind_eq_some_iff.mp hF
    have hst : L2.start N vs = vs.map some ++ List.replicate r none := by
      unfold L2.start
      rw [show N.length - vs.length = r by omega]
    have st0 : Stt K (ptys ++ List.replicate r .u) G H (L2.start N vs) (ds ++ List.replicate r .none) A0 := ⟨by rw [hst]; exact ownA_us r o0, nd, sub⟩
    refine dt st0 h1 ?_
    have fin : ∀ {G' H' : Hp} {σ' : St} {A' : List Addr}, Same G G' → Stt K mr G' H' σ' e' A' → Pin po (L2.start N vs) σ' → ∃ A3, OwnA K G' H' ptys (fins ptys ds e') (vs.map some) A3 ∧ A3.Nodup ∧ ∀ a ∈ A3, a ∈ A' := fun {G' H' σ' A'} sg st' pn =>
      fin_own (j := 0) fo o0 sg st'.own (fun i => by rw [Nat.zero_add]) (fun i v hv => by
        rw [Nat.zero_add, hst, List.getElem?_append_left (List.getElem?_eq_some_iff.mp hv).1]; exact hv) pn st'.nd
    cases o with
    | nx =>
      cases h2
      rcases hty with hty | hty
      · subst hty
        exact fun G' H' σ' A' s' st' pn => by
          obtain ⟨A3, o3, n3, s3⟩ := fin s'.sg st' pn
          exact kont G' H' .non [] A3 (s'.less s3) o3 (.s .non) n3 st'.sub
      · exact absurd h1 (hty _ _)
    | bk => cases h2
    | ct => cases h2
    | rt d1 =>
      cases h2
      intro G' H' σ' v Av A' s' st' ov ndv pn
      obtain ⟨A3, o3, n3, s3⟩ := fin s'.sg st' pn
      have n := List.nodup_append.mp ndv
      refine kont G' H' v Av A3 (s'.less fun a ha => ?_) o3 ov (List.nodup_append.mpr ⟨n.1, n3, fun a ha b hb z => n.2.2 a ha b (s3 b hb) z⟩) st'.sub
      rcases List.mem_append.mp ha with z | z
      · exact List.mem_append_left _ z
      · exact List.mem_append_right _ (s3 a z)
end DL

namespace DL
open PySem L2 PySem.Spec PyProof.Rows

/-! ### the law's own call -/
/-- only the script at a is tracked, unless the module's written part holds it -/
def hScr (K : PySem.W.Frag) (a : Addr) (u : HO) : Hp := fun b => if b = a ∧ K.lookup a = none then some u else none
theorem hScr_some {K : PySem.W.Frag} {a b : Addr} {u z : HO} (h : hScr K a u b = some z) : b = a ∧ K.lookup a = none ∧ z = u := by
  unfold hScr at h
  split at h
  · rename_i c; exact ⟨c.1, c.2, (Option.some.inj h).symm⟩
  · cases h
theorem hScr_none {K : PySem.W.Frag} {a b : Addr} {u : HO} (h : b ≠ a ∨ K.lookup a ≠ none) : hScr K a u b = none := by
  unfold hScr
  rw [if_neg]
  rintro ⟨c1, c2⟩
  exact h.elim (fun z => z c1) fun z => z c2
section
variable {P : Program} {w : World} {K : PySem.W.Frag} {mg mb : Str → Option Value} {k : Nat} {fa a : Addr} {fd : FuncData} {x : Str} {s₁ : Shared} {vs : List Value} {ns : List Int} {Fn : DFn}
theorem scr_env (KX : K.In s₁.heap) (hns : s₁.heap.Ns mainGlobals mg) (hb : s₁.heap.Ns builtinsNs mb) (hbb : ∀ x : Str, x ≠ "__name__" → mb x = bootBuiltins x) (hlim : s₁.heap.NoLimit) (hg : s₁.gens = #[])
    {ob : Obj} {u : HO} (ha : s₁.heap.get? a = some ob) (hd : ∀ es ep, ob.data ≠ .dict es ep) (hu : ∀ H, ObjOk P w H s₁.heap a u) :
    K.In (hidT s₁.heap (hScr K a u)) ∧ (hidT s₁.heap (hScr K a u)).Ns mainGlobals mg ∧ Env0 P w K mg (hidT s₁.heap (hScr K a u)) callerA [] s₁ (hScr K a u) := by
  have up : ∀ {b : Addr} {o : Obj}, s₁.heap.get? b = some o → (b ≠ a ∨ K.lookup a ≠ none) → (hidT s₁.heap (hScr K a u)).get? b = some o := fun e n => hidT_get e (hScr_none n)
  have ns' : ∀ {b : Addr} {m : Str → Option Value}, s₁.heap.Ns b m → (hidT s₁.heap (hScr K a u)).Ns b m := by
    rintro b m ⟨o, es, ep, e, d, r⟩
    refine ⟨o, es, ep, up e (.inl fun z => ?_), d, r⟩
    subst z
    rw [ha] at e
    exact hd es ep ((Option.some.inj e) ▸ d)
  have kin : K.In (hidT s₁.heap (hScr K a u)) := fun b o e => up (KX b o e) (by
    by_cases z : b = a
    · subst z; exact .inr (by rw [e]; exact fun q => by cases q)
    · exact .inl z)
  obtain ⟨mc, hl1, hl2⟩ := hlim
  refine ⟨kin, ns' hns, rfl, ⟨kin, ns' hns, ⟨mb, ns' hb, hbb⟩, mc, ns' hl1, hl2⟩, fun b o e => of_hidT e, Nat.le_of_eq (hidT_size _ _), trivial, fun b hb => ?_, fun b z hz => ?_, .of_eq hg⟩
  · cases hb
  · obtain ⟨rfl, _, rfl⟩ := hScr_some hz
    exact hu _
theorem law_callG (KX : K.In s₁.heap) (hns : s₁.heap.Ns mainGlobals mg) (hb : s₁.heap.Ns builtinsNs mb) (hbb : ∀ x : Str, x ≠ "__name__" → mb x = bootBuiltins x) (hlim : s₁.heap.NoLimit) (hg : s₁.gens = #[])
    (ha : s₁.heap.get? a = some { cls := .type "list", data := .seq vs.toArray }) (hi : IntsAre vs ns) (hl : ns.length ≤ sizeLine) (hr : Room k callerA)
    (F : ∀ base : Heap, K.In base → base.Ns mainGlobals mg → FnG P w K mg base k fa fd [x] (spD K [.q] .s Fn)) (hbind : ∀ (s : Shared) (u : Value), BindsTo s fd ⟨[u], []⟩ [(x, u)])
    (hF : ∃ fs, Fn [.list (ns.map .int)] = some (.bool true, fs)) :
    codeAny (model P w) callerA (.call (.ref fa) ⟨[.ref a], []⟩) (fun r s' => r = .ok (.ret (.bool true)) ∧ OldK s₁.heap s'.heap ∧ s'.os = s₁.os ∧ AllBare s'.gens) s₁ := by
  obtain ⟨fs, hF⟩ := hF
  have rv := vals_ints hi
  have okA : ∀ H, ObjOk P w H s₁.heap a (.frz { cls := .type "list", data := .seq vs.toArray } (.lst (ns.map V.int))) := fun H => ⟨ha, by rw [List.length_map]; exact hl, vs, _, rv, ha⟩
  obtain ⟨k1, k2, e0⟩ := scr_env KX hns hb hbb hlim hg ha (fun es ep z => by cases z) okA
  have hS : SqL K (hScr K a (.frz { cls := .type "list", data := .seq vs.toArray } (.lst (ns.map V.int)))) a (ns.map V.int) := by
    cases hk : K.lookup a with
    | none => exact .inl (.inr ⟨_, if_pos ⟨rfl, hk⟩⟩)
    | some o =>
      have e := KX a o hk
      rw [ha] at e
      cases e
      exact .inr ⟨_, vs.toArray, _, hk, rfl, rfl, rfl, by rw [List.size_toArray, hi.length]; exact hl, by simpa using rv⟩
  refine codeAny_mono ((F _ k1 k2).run callerA [] s₁ _ ⟨[.ref a], []⟩ [.ref a] [.ref a] (fun v _ => v = .bl true) E0 hr rfl e0 (hbind s₁ (.ref a)) (.cons rfl .nil)
    ⟨_, _, fs, _, [], hF, OwnA.cons (A := []) (.q hS hl) .nil, List.nodup_nil, Same.refl _, fun G' H' v Av A' _ _ o _ _ => by
      cases o with
      | s q => cases q; rfl⟩) fun r s' h => ?_
  cases r with
  | error e => exact False.elim h
  | ok fl =>
    cases fl with
    | ret u =>
      obtain ⟨v, H', os, bare, un, hok', r', q⟩ := h
      cases q
      obtain rfl : u = Value.bool true := r'
      refine ⟨rfl, OldK.of_keep fun b o e => ?_, os, bare⟩
      cases hq : hScr K a (.frz { cls := .type "list", data := .seq vs.toArray } (.lst (ns.map V.int))) b with
      | none => exact un.keep b o e hq (fun z => by cases z) (by simp)
      | some z =>
        obtain ⟨rfl, _, rfl⟩ := hScr_some hq
        rw [ha] at e
        rw [← e]
        exact (hok' b _ (un.frzs b _ _ hq)).1
    | next => exact False.elim h
    | brk => exact False.elim h
    | cont => exact False.elim h
theorem walk_ofG {l : PySem.W.OpenLaw} {n k : Nat} {q : Program} {loose : List Str} {XP : (Str → Option Value) → Heap → Prop} {YP : World → Heap → Prop} {d : DefRec} {K : Params → PySem.W.Frag} {x : Str}
    (hn : l.most = some n) (hn2 : n ≤ sizeLine) (hdf : d.params.defaults = []) (hr : Room k callerA) (hY : ∀ (w : World) (h : Heap), YP w h → (K w.params).In h)
    (F : ∀ (w : World) (mg : Str → Option Value) (fa : Addr) (h : Heap), (K w.params).In h → h.Ns mainGlobals mg → mg d.name = some (.ref fa) →
      ∃ fd : FuncData, (∀ (s : Shared) (u : Value), BindsTo s fd ⟨[u], []⟩ [(x, u)]) ∧ ∀ base : Heap, (K w.params).In base → base.Ns mainGlobals mg → FnG l.prog w (K w.params) mg base k fa fd [x] (spD (K w.params) [.q] .s Fn))
    (hF : ∀ ns : List Int, ns.length ≤ n → ∃ fs, Fn [.list (ns.map .int)] = some (.bool true, fs)) :
    PySem.W.WalkO q loose XP YP l.row.toRowW d [] (fun f vs => PySem.call f vs) :=
  Att.attach_call hn hdf fun w s₀ s₁ mg mb fa o pm cd doc a vs ns G Y ho hd hcd hmg hobj hints hlen hg => by
    obtain ⟨fd, hb, hFn⟩ := F w mg fa _ (hY w _ Y) G.T.g hmg
    exact law_callG (hY w _ Y) G.T.g G.T.b G.T.builtins G.T.nolimit hg hobj hints (Nat.le_trans hlen hn2) hr hFn hb (hF ns hlen)
end
end DL

namespace DL
open PySem L2 PySem.Spec PyProof.Rows

/-! ### isinstance -/
class IsaOk (T : String) (p : outParam (PyData → Bool)) : Prop where
  h : ∀ {P : Program} {w : World} {A : Around} {E : Value → Shared → Prop} {s : Shared} {v : Value} {d : PyData} {as : List Addr} {Q : Value → Shared → Prop}, Reads s.heap v d as → (∀ tk, s.toks ≤ tk → Q (.bool (p d)) { s with toks := tk }) → wpAny (model P w) A (call (.builtin "isinstance") [v, .type T]) Q E s
instance : IsaOk "int" PyData.isInt := ⟨fun r h => PySem.W.isinstance_int_data r h⟩
instance : IsaOk "bool" PyData.isBool := ⟨fun r h => PySem.W.isinstance_bool_data r h⟩
instance : IsaOk "str" PyData.isStr := ⟨fun r h => PySem.W.isinstance_str_data r h⟩
instance : IsaOk "list" PyData.isList := ⟨fun r h => PySem.W.isinstance_list_data r h⟩
instance : IsaOk "tuple" PyData.isTuple := ⟨fun r h => PySem.W.isinstance_tuple_data r h⟩
instance : IsaOk "dict" PyData.isDict := ⟨fun r h => PySem.W.isinstance_dict_data r h⟩
instance : IsaOk "set" PyData.isSet := ⟨fun r h => PySem.W.isinstance_set_data r h⟩
def gIsa (p : PyData → Bool) (d : PyData) : Option PyData := some (.bool (p d))
def rIsaD (K : PySem.W.Frag) (T : String) (p : PyData → Bool) : List V → Hp → VK → Prop := fun vs H Q => ∃ x d, vs = [x, .ty T] ∧ Dq K H x d ∧ Q (.bl (p d)) H
theorem call_isaD {X : Cx} {T : String} {p : PyData → Bool} (h : IsaOk T p) : CallR X (.builtin "isinstance") (rIsaD X.K T p) := by
  intro pins s σ H vs us Q I r hq
  obtain ⟨x, d, rfl, q, k⟩ := hq
  obtain ⟨u1, u2, rfl, r1, r2⟩ := vals2 r
  cases (show u2 = Value.type T from r2)
  obtain ⟨as, rd⟩ := q.reads I r1
  exact h.h rd fun tk _ => ⟨.bl (p d), H, I.tok tk, rfl, k⟩
section
variable {ι : Type} {Xf : ι → Cx} {P : Program} {w : World} {K : PySem.W.Frag} {mg : Str → Option Value} {base : Heap} {n : Nat} [F : Fam Xf P w K mg base n]
variable {m m1 m2 m3 : List Ty} {pos p p2 : Pos} {a b c tg : Expr} {f g h : Ef} {fq : Gq}
include F in
theorem pd_isa (T : String) {pp : PyData → Bool} {x : Str} [ok : IsaOk T pp] (hm : mg "isinstance" = none) (hmT : mg x = none) (hv : bootBuiltins x = some (.type T)) (ha : PD Xf K m a .s f m1) (hg : ∀ i, Gl (Xf i) "isinstance" := by intro _; rfl) (hgT : ∀ i, Gl (Xf i) x := by intro _; rfl) (hn : x ≠ "__name__" := by decide) (hdb : (x == ("__debug__" : Str)) = false := by decide)
    (he : ∀ i, starEach [a, .Name x p2] (Xf i).env = (false, eval a (Xf i).env) :: starEach [.Name x p2] (Xf i).env := by intro _; rfl) (he2 : ∀ i, starEach [.Name x p2] (Xf i).env = (false, eval (.Name x p2) (Xf i).env) :: starEach [] (Xf i).env := by intro _; rfl) (hpl : ∀ i, (backTo pos (starEach [.Name x p2] (Xf i).env)).any (·.1) = false := by intro _; rfl) :
    PD Xf K m (.Call (.Name "isinstance" p) [a, .Name x p2] [] pos) .s (e1 (gIsa pp) f) m1 := by
  obtain ⟨ta, pa, da⟩ := ha.ex
  refine ⟨_, fun i => (by have := pe_callB (pos := pos) (p := p) (call_isaD (X := Xf i) ok) (hg i) (by rw [F.mg_ i]; exact hm) bt_isinstance (pa_cons (pa i) (pa_cons (pe_bltn (v := .ty T) (pos := p2) (hgT i) (by rw [F.mg_ i]; exact hmT) hv rfl hn hdb) pa_nil (he2 i)) (he i)) (by decide) (by decide) (he i) (hpl i); rw [F.kk i] at this; exact this), fun {G H σ e A d e' Q} st hf k => ?_⟩
  unfold e1 at hf
  obtain ⟨⟨d1, e1⟩, hf1, hf⟩ := Option.bind_eq_some_iff.mp hf
  obtain ⟨d3, hf3, hf⟩ := Option.bind_eq_some_iff.mp hf
  cases hf3
  cases hf
  refine da st hf1 fun G1 H1 v1 A1 B1 s1 st1 o1 nd1 => ?_
  cases o1 with
  | s q1 => exact ⟨v1, d1, rfl, q1.mono st1.sub, k G1 H1 _ [] B1 s1 st1 (.s (.bl _)) st1.nd⟩
include F in
theorem pq_isa (T : String) {pp : PyData → Bool} {x : Str} [ok : IsaOk T pp] (hm : mg "isinstance" = none) (hmT : mg x = none) (hv : bootBuiltins x = some (.type T)) (ha : PQ Xf K m a fq) (hg : ∀ i, Gl (Xf i) "isinstance" := by intro _; rfl) (hgT : ∀ i, Gl (Xf i) x := by intro _; rfl) (hn : x ≠ "__name__" := by decide) (hdb : (x == ("__debug__" : Str)) = false := by decide)
    (he : ∀ i, starEach [a, .Name x p2] (Xf i).env = (false, eval a (Xf i).env) :: starEach [.Name x p2] (Xf i).env := by intro _; rfl) (he2 : ∀ i, starEach [.Name x p2] (Xf i).env = (false, eval (.Name x p2) (Xf i).env) :: starEach [] (Xf i).env := by intro _; rfl) (hpl : ∀ i, (backTo pos (starEach [.Name x p2] (Xf i).env)).any (·.1) = false := by intro _; rfl) :
    PQ Xf K m (.Call (.Name "isinstance" p) [a, .Name x p2] [] pos) (q1 (gIsa pp) fq) := by
  obtain ⟨ta, pa, da⟩ := ha.ex
  refine ⟨_, fun i => (by have := pe_callB (pos := pos) (p := p) (call_isaD (X := Xf i) ok) (hg i) (by rw [F.mg_ i]; exact hm) bt_isinstance (pa_cons (pa i) (pa_cons (pe_bltn (v := .ty T) (pos := p2) (hgT i) (by rw [F.mg_ i]; exact hmT) hv rfl hn hdb) pa_nil (he2 i)) (he i)) (by decide) (by decide) (he i) (hpl i); rw [F.kk i] at this; exact this), fun {G H σ e A d Q} st hf k => ?_⟩
  obtain ⟨x1, h1, hf⟩ := Option.bind_eq_some_iff.mp hf
  cases hf
  exact da st h1 fun H1 v s1 q => ⟨v, x1, rfl, q, k H1 _ s1 (.bl _)⟩
include F in
/-- a module's whole number -/
theorem pd_gint {x : Str} {i : Int} {t : Tok} (hm : mg x = some (.int i t)) (hg : ∀ i, Gl (Xf i) x := by intro _; rfl) (hd : (x == ("__debug__" : Str)) = false := by decide) : PD Xf K m (.Name x pos) .s (eC (.int i)) m :=
  ⟨_, fun j => pe_glob (v := .int i) (hg j) (by rw [F.mg_ j]; exact hm) ⟨t, rfl⟩ hd, fun {G H σ e A d e' Q} st hf k => by cases hf; exact ans_s st (.int i) k⟩
include F in
theorem pq_gint {x : Str} {i : Int} {t : Tok} (hm : mg x = some (.int i t)) (hg : ∀ i, Gl (Xf i) x := by intro _; rfl) (hd : (x == ("__debug__" : Str)) = false := by decide) : PQ Xf K m (.Name x pos) (qC (.int i)) :=
  ⟨_, fun j => pe_glob (v := .int i) (hg j) (by rw [F.mg_ j]; exact hm) ⟨t, rfl⟩ hd, fun {G H σ e A d Q} st hf k => by cases hf; exact k H _ (Same.refl H) (.int i)⟩

/-! ### sorted -/
def rSortD (K : PySem.W.Frag) : List V → Hp → VK → Prop := fun vs H Q => ∃ a xs ds G, vs = [.ref a] ∧ Same G H ∧ SqL K H a xs ∧ DqA K G xs ds ∧ sortOk ds = true ∧ xs.length ≤ sizeLine ∧ ∀ p ys, H p = none → DqA K G ys (ds.mergeSort (PySem.W.dataLe false id)) → Q (.ref p) (upd H p (.lst ys))
theorem each_of {X : Cx} {H : Hp} : ∀ {xs : List V} {ds : List PyData} {its : List Value}, DqA X.K H xs ds → Vals xs its → PySem.W.EachIs (fun u d => ∃ v, RelV v u ∧ Dq X.K H v d) its ds
  | [], [], _, _, .nil => .nil
  | x :: xs, d :: ds, _, q, .cons r t => .cons ⟨x, r, q.head⟩ (each_of q.tail t)
  | [], _ :: _, _, q, _ => by have := q.1; simp at this
  | _ :: _, [], _, q, _ => by have := q.1; simp at this
theorem of_each {X : Cx} {H : Hp} {its : List Value} {ds : List PyData} (h : PySem.W.EachIs (fun u d => ∃ v, RelV v u ∧ Dq X.K H v d) its ds) : ∃ xs, Vals xs its ∧ DqA X.K H xs ds := by
  induction h with
  | nil => exact ⟨[], .nil, DqA.nil⟩
  | cons h _ ih =>
    obtain ⟨v, r, q⟩ := h
    obtain ⟨xs, r2, q2⟩ := ih
    exact ⟨v :: xs, .cons r r2, DqA.cons q q2⟩
theorem depth_mem {x : PyData} {xs : List PyData} (h : x ∈ xs) : x.depth ≤ PyData.depthAll xs := depthAll_mem h
theorem call_sortD {X : Cx} {n : Nat} (hr : Room n X.A) : CallR X (.builtin "sorted") (rSortD X.K) := by
  intro pins s σ H vs us Q I r hq
  obtain ⟨a, xs, ds, G, rfl, sg, hs, q, ok, hz, k⟩ := hq
  rw [Vals.ref1 r]
  obtain ⟨its, rv, hL, _⟩ := I.list hs
  unfold sortOk at ok
  simp only [Bool.and_eq_true, List.all_eq_true, decide_eq_true_eq, Bool.or_eq_true] at ok
  have er : PySem.W.EachIs (fun v b => ∃ as, Reads s.heap v (id b) as) its ds := (each_of q rv).mono fun u d ⟨v, r, q⟩ => (q.mono sg).reads I r
  refine PySem.W.sorted_data (enc := id) hL.isList (each_of q rv) er (fun x hx y hy => ?_) ?_ (by rw [← q.1]; exact hz) (fun b hb => ?_) fun out hl eo => ?_
  · rw [List.map_id] at hx hy
    exact ok.1.1 x hx y hy
  · rw [List.map_id]
    rcases ok.1.2 with h | h
    · refine .inl fun d hd => ?_
      have := h d hd
      split at this
      · exact ⟨_, _, rfl⟩
      · cases this
    · refine .inr fun d hd => ⟨fun e => ?_, fun xs e => ?_⟩
      · have := h d hd; subst e; cases this
      · have := h d hd; subst e; cases this
  · have := hr.un
    have h1 : (id b : PyData).depth ≤ PyData.depthAll ds := depth_mem hb
    have h2 := ok.2
    omega
  · obtain ⟨ys, r2, q2⟩ := of_each eo
    obtain ⟨ep, he'⟩ := sortedAll_at s.heap its out.toArray
    have hlen : ys.length ≤ sizeLine := by
      have := q.1
      rw [r2.length, hl]; omega
    exact ⟨.ref _, upd H (s.heap.objs.size + 1) (.lst ys), I.laid (t' := s.toks) (fun _ _ => sortedAll_old) (Nat.le_succ _) ⟨hlen, out, ep, r2, by simpa using he'⟩, rfl, k _ ys (I.hok.fresh (Nat.le_succ _)) q2⟩
end
/-! ### sorted(tuple) -/
end DL
namespace DL
open PySem PySem.Calls PyProof.Rows L2
section
variable {prog : Program} {w : World} {A : Around} {E : Value → Shared → Prop} {s : Shared}
theorem collect_tup {b : Addr} {us : List Value} {R : List Value → Shared → Prop} (hb : PyProof.Rows.IsTup s.heap b us.toArray)
    (hR : R us { s with heap := (s.heap.push (seqObj "list" #[] 0)).update s.heap.objs.size (Obj.mapSeq (· ++ us.toArray)) }) (hz : us.length ≤ sizeLine) :
    wpAny (model prog w) A (collect (.ref b)) R E s := by
  obtain ⟨ob, hob, hcl, nn, hdat⟩ := id hb
  unfold collect
  refine wpAny_bind (wpAny_runValue (codeAny_builtin entry_proto_collect' ?_))
  show wpAny _ _ (do again (.builtin "list.__iadd__" ⟨[← newList [], .ref b], []⟩)) _ _ s
  refine wpAny_bind (wpAny_newList (wpAny_pure ⟨Code.quiet_builtin _ (by decide +kernel), codeAny_builtin entry_list_iadd' ?_⟩))
  show wpAny _ _ (Builtin.List.listExtendWith (.ref s.heap.objs.size) (.ref b) (.ref s.heap.objs.size)) _ _ { s with heap := s.heap.push (seqObj "list" #[] 0) }
  unfold Builtin.List.listExtendWith
  have hob' : (s.heap.push (seqObj "list" #[] 0)).get? b = some ob := Heap.get?_push_of_some _ hob
  refine wpAny_bind (wpAny_typeOf (T := "tuple") ⟨ob, hob', hcl⟩ ?_)
  have ty1 : (Value.type "tuple" == Value.type "tuple") = true := by rfl
  rw [if_pos (by rw [ty1]; simp)]
  refine wpAny_bind (listItems_at hob' hdat ?_)
  refine wpAny_bind (listItems_at (n := 0) (xs := #[]) (Heap.get?_push_size _ rfl) rfl ?_)
  rw [if_neg (by simp)]
  refine wpAny_bind (listUpdate_at (n := 0) (xs := #[]) (Heap.get?_push_size _ rfl) rfl ?_ (Nat.zero_le _) (by
    show (#[] ++ us.toArray).size ≤ sizeLine + 1
    simp; omega))
  refine wpAny_pure ?_
  refine wpAny_bind (wpAny_load (get?_update_seq (Heap.get?_push_size _ rfl) _) ?_)
  have eus : ((#[] : Array Value) ++ us.toArray).toList = us := by simp
  show wpAny _ _ (pure ((#[] : Array Value) ++ us.toArray).toList) R E _
  rw [eus]
  exact wpAny_pure hR
theorem sorted_of_tup {b : Addr} {us : List Value} {R : Value → Shared → Prop} (hb : PyProof.Rows.IsTup s.heap b us.toArray) (hz : us.length ≤ sizeLine)
    (body : ∀ E' : Value → Shared → Prop, wpAny (model prog w) A.in1.in1 (Builtin.«list.sort» ⟨[.ref (s.heap.objs.size + 1)], []⟩) (fun f s' => f = .done (.ret .none) ∧ R (.ref (s.heap.objs.size + 1)) s') E' { s with heap := PySem.W.copyHeap s.heap us }) :
    wpAny (model prog w) A (call (.builtin "sorted") [.ref b]) R E s := by
  refine call_function_entry kind_sorted plain_sorted entry_sorted (args_sorted1 _) ?_
  unfold Builtin.«sorted»
  refine wpAny_bind (m := checkCount "sorted" 1 1 _) (wpAny_pure ?_)
  refine wpAny_bind (collect_tup hb ?_ hz)
  refine wpAny_bind (wpAny_newList ?_ hz)
  have e1 : ((s.heap.push (seqObj "list" #[] 0)).update s.heap.objs.size (Obj.mapSeq (· ++ us.toArray))).objs.size = s.heap.objs.size + 1 := by
    rw [Heap.size_update, size_push']
  show wpAny _ _ _ _ _ { s with heap := PySem.W.copyHeap s.heap us }
  rw [e1]
  refine wpAny_bind (wpAny_holding (wpAny_call_entry_kw slot_list_sort ⟨_, PySem.W.copyHeap_at s.heap us, rfl⟩ entry_list_sort ?fin (args_list_sort _)))
  case fin =>
    show wpAny (model prog w) A.in1.in1 (Builtin.«list.sort» ⟨[.ref (s.heap.objs.size + 1)], []⟩) _ _ _
    refine wpAny_mono (body _) (fun f s' hf => ?_) fun _ _ e => e
    obtain ⟨rfl, hq⟩ := hf
    exact ⟨_, rfl, wpAny_pure ⟨_, rfl, hq⟩⟩
open PySem.W in
theorem sorted_dataT {β : Type} {us : List Value} {bs : List β} {enc : β → PyData} {R : Value → β → Prop} {l : Addr} {Q : Value → Shared → Prop} (hl : PyProof.Rows.IsTup s.heap l us.toArray) (e : EachIs R us bs) (er : EachIs (fun v b => ∃ as, Reads s.heap v (enc b) as) us bs) (hal : AllAlike (bs.map enc)) (hk : Sortable (bs.map enc)) (hL : bs.length ≤ sizeLine)
    (hu : ∀ b, b ∈ bs → A.units + 2 + (enc b).depth < cLine) (h : ∀ out, out.length = bs.length → EachIs R out (bs.mergeSort (dataLe false enc)) → Q (.ref (s.heap.objs.size + 1)) { s with heap := sortedAll s.heap us (List.toArray out) }) :
    wpAny (model prog w) A (call (.builtin "sorted") [.ref l]) Q E s := by
  have er' : EachIs (fun v b => ∃ as, Reads (sortingHeap (copyHeap s.heap us) (s.heap.objs.size + 1) us) v (enc b) as) us bs := er.mono fun _ _ ⟨as, r⟩ => ⟨as, PyProof.Rows.Reads.keeps (fun _ _ => sorting_copy_old) r⟩
  have hus : us.length ≤ sizeLine := by rw [e.length]; exact hL
  have S := SortsAt.data (prog := prog) (w := w) (A := A.in1.in1) (s := { s with heap := sortingHeap (copyHeap s.heap us) (s.heap.objs.size + 1) us }) (each_map (R := fun v d => ∃ as, Reads (sortingHeap (copyHeap s.heap us) (s.heap.objs.size + 1) us) v d as) enc er') hal hk (bound_map hu)
  refine sorted_of_tup hl hus fun _ => list_sort_vals (s := { s with heap := copyHeap s.heap us }) (copyHeap_at s.heap us) S hus ⟨rfl, ?_⟩
  exact h _ (by rw [sortVals_length false rfl]; exact e.length) (sortVals_data false e er' hal)
end
end DL
namespace DL
open PySem L2 PySem.Spec
def rSortT (K : PySem.W.Frag) : List V → Hp → VK → Prop := fun vs H Q => ∃ a xs ds G, vs = [.ref a] ∧ Same G H ∧ SqT K H a xs ∧ DqA K G xs ds ∧ sortOk ds = true ∧ xs.length ≤ sizeLine ∧ ∀ p ys, H p = none → DqA K G ys (ds.mergeSort (PySem.W.dataLe false id)) → Q (.ref p) (upd H p (.lst ys))
theorem call_sortT {X : Cx} {n : Nat} (hr : Room n X.A) : CallR X (.builtin "sorted") (rSortT X.K) := by
  intro pins s σ H vs us Q I r hq
  obtain ⟨a, xs, ds, G, rfl, sg, hs, q, ok, hz, k⟩ := hq
  rw [Vals.ref1 r]
  obtain ⟨its, rv, hT, _⟩ := I.tuple hs
  unfold sortOk at ok
  simp only [Bool.and_eq_true, List.all_eq_true, decide_eq_true_eq, Bool.or_eq_true] at ok
  have er : PySem.W.EachIs (fun v b => ∃ as, Reads s.heap v (id b) as) its ds := (each_of q rv).mono fun u d ⟨v, r, q⟩ => (q.mono sg).reads I r
  refine sorted_dataT (enc := id) hT (each_of q rv) er (fun x hx y hy => ?_) ?_ (by rw [← q.1]; exact hz) (fun b hb => ?_) fun out hl eo => ?_
  · rw [List.map_id] at hx hy
    exact ok.1.1 x hx y hy
  · rw [List.map_id]
    rcases ok.1.2 with h | h
    · refine .inl fun d hd => ?_
      have := h d hd
      split at this
      · exact ⟨_, _, rfl⟩
      · cases this
    · refine .inr fun d hd => ⟨fun e => ?_, fun xs e => ?_⟩
      · have := h d hd; subst e; cases this
      · have := h d hd; subst e; cases this
  · have := hr.un
    have h1 : (id b : PyData).depth ≤ PyData.depthAll ds := depth_mem hb
    have h2 := ok.2
    omega
  · obtain ⟨ys, r2, q2⟩ := of_each eo
    obtain ⟨ep, he'⟩ := PyProof.Rows.sortedAll_at s.heap its out.toArray
    have hlen : ys.length ≤ sizeLine := by
      have := q.1
      rw [r2.length, hl]; omega
    exact ⟨.ref _, upd H (s.heap.objs.size + 1) (.lst ys), I.laid (t' := s.toks) (fun _ _ => PyProof.Rows.sortedAll_old) (Nat.le_succ _) ⟨hlen, out, ep, r2, by simpa using he'⟩, rfl, k _ ys (I.hok.fresh (Nat.le_succ _)) q2⟩
section
variable {ι : Type} {Xf : ι → Cx} {P : Program} {w : World} {K : PySem.W.Frag} {mg : Str → Option Value} {base : Heap} {n : Nat} [F : Fam Xf P w K mg base n]
include F in
theorem clSorted [FG : FamG Xf] : Cl1 Xf K (.builtin "sorted") (.l .s) gSorted := by
  refine ⟨fun vs H Q => rSortD K vs H Q ∨ rSortT K vs H Q, fun i => by
    have c1 := call_sortD (X := Xf i) (rmOf F FG i)
    have c2 := call_sortT (X := Xf i) (rmOf F FG i)
    rw [F.kk i] at c1 c2
    exact CallR.or c1 c2, fun {m G H σ e A x dx d Q} st hx ee k => ?_⟩
  unfold gSorted at ee
  split at ee
  · obtain ⟨h1, rfl⟩ := ite_some ee
    obtain ⟨a, xs, rfl, r1, z1, q1⟩ := dq_lst hx
    refine .inl ⟨a, xs, _, G, rfl, st.sub, .inl (same_rd st.sub r1), q1, h1, z1, fun p ys hp q => ?_⟩
    have hy : ys.length ≤ sizeLine := by rw [q.1, List.length_mergeSort, ← q1.1]; exact z1
    exact ans_lst st q hy k p hp
  · obtain ⟨h1, rfl⟩ := ite_some ee
    obtain ⟨a, xs, rfl, r1, z1, q1⟩ := dq_tup hx
    refine .inr ⟨a, xs, _, G, rfl, st.sub, same_seqT st.sub r1, q1, h1, z1, fun p ys hp q => ?_⟩
    have hy : ys.length ≤ sizeLine := by rw [q.1, List.length_mergeSort, ← q1.1]; exact z1
    exact ans_lst st q hy k p hp
  · cases ee
end
end DL

namespace DL
open PySem L2 PySem.Spec

section
variable {K : PySem.W.Frag} {M : Mk} {G H G1 H1 : Hp} {m m1 m2 mn : List Ty} {σ σ1 : St} {e : En} {A A1 : List Addr} {D : Ends} {e' : En} {o : Out} {t u : TS} {f g : Sf} {ef : Ef} {bf : Bf} {lf : Lf}
/-- a, b = x, y; what is owned is moved -/
theorem DS.parT {ta : TA} {i j : Nat} {t1 t2 : Ty} (ha : DA K m ta [t1, t2] lf m1) (hi : i < m1.length) (hj : j < m1.length) (pi : i ∉ M.po) (pj : j ∉ M.po) : DS K M m (tPar i j ta) (sPar i j lf) ((m1.set i t1).set j t2) := by
  intro G H σ e A o e' D st hf k
  obtain ⟨⟨ds, e1⟩, hf1, hf⟩ := Option.bind_eq_some_iff.mp hf
  refine ha st hf1 fun G1 H1 vs Av A1 s1 st1 o1 nd1 => ?_
  match vs, ds, hf, o1 with
  | [v, w], [x, y], hf, o1 =>
    cases hf
    cases o1 with
    | @cons _ _ _ _ _ _ A2 A3 p1 p2 =>
      cases p2 with
      | @cons _ _ _ _ _ _ A4 A5 p3 p4 =>
        cases p4
        rw [List.append_nil] at nd1 s1
        have n1 := List.nodup_append.mp nd1
        have n2 := List.nodup_append.mp n1.1
        obtain ⟨B2, st2, hB2⟩ := stt_set st1 hi p1 (List.nodup_append.mpr ⟨n2.1, n1.2.1, fun a ha b hb z => n1.2.2 a (List.mem_append_left _ ha) b hb z⟩)
        obtain ⟨B3, st3, hB3⟩ := stt_set st2 (by rw [List.length_set]; exact hj) p3 (List.nodup_append.mpr ⟨n2.2.1, st2.nd, fun a ha b hb z => by
          rcases List.mem_append.mp (hB2 b hb) with q | q
          · exact n2.2.2 b q a ha z.symm
          · exact n1.2.2 a (List.mem_append_right _ ha) b q z⟩)
        refine ⟨v, w, rfl, k G1 H1 _ B3 (s1.less fun a h => ?_) st3 ((Pin.set pi).trans (Pin.set pj))⟩
        rcases List.mem_append.mp (hB3 a h) with q | q
        · exact List.mem_append_left _ (List.mem_append_right _ q)
        · rcases List.mem_append.mp (hB2 a q) with q | q
          · exact List.mem_append_left _ (List.mem_append_left _ q)
          · exact List.mem_append_right _ q
  | [_], _, _, o1 => cases o1 with | cons _ p => cases p
  | [], _, _, o1 => cases o1
  | _ :: _ :: _ :: _, _, _, o1 => cases o1 with | cons _ p => cases p with | cons _ p => cases p
/-- an item of an owned variable, any index -/
def eItmG (j : Nat) (f : Ef) : Ef := fun e => (f e).bind fun p => (itemD (p.2.getD j .none) p.1).map fun x => (x, p.2)
theorem DE.itmG {ti : TE} {j : Nat} {t0 : Ty} (h0 : m[j]? = some t0) (hl0 : lstTy t0 = true) (hi : DE K m ti .s ef m1) (hm : m1[j]? = some (.l .s)) : DE K m (tOp (rIxL K) (tVar j) ti) .s (eItmG j ef) m1 := by
  intro G H σ e A d e' Q st hf k
  obtain ⟨⟨di, e1⟩, hf1, hf⟩ := Option.bind_eq_some_iff.mp hf
  obtain ⟨x, hx, hf⟩ := Option.map_eq_some_iff.mp hf
  cases hf
  obtain ⟨d0, v0, B0, C0, g1, g2, g3, _, _⟩ := ownA_take st.own h0
  have hv0 : ∃ w, v0 = some w := by cases g3 with | u => cases hl0 | s => cases hl0 | q => cases hl0 | e => cases hl0 | k => cases hl0 | a => cases hl0 | d => exact ⟨_, rfl⟩ | l => exact ⟨_, rfl⟩ | r => exact ⟨_, rfl⟩
  obtain ⟨w, rfl⟩ := hv0
  refine ⟨w, g2, hi st hf1 fun G1 H1 y A1 B1 s1 st1 o1 nd1 => ?_⟩
  obtain ⟨dj, vj, Aj, A0, h1, h2, h3, h4, hp⟩ := ownA_take st1.own hm
  rw [g2] at h2
  obtain rfl := Option.some.inj h2
  cases o1 with
  | s q1 =>
    cases h3 with
    | @l _ a vs ds Ai ga ha hz oi =>
      have ed : e1.getD j .none = .list ds := by rw [List.getD_eq_getElem?_getD, h1]; rfl
      rw [ed] at hx
      cases di with
      | int i =>
        obtain rfl := dq_int q1
        obtain ⟨jj, hj, hx⟩ := Option.bind_eq_some_iff.mp (show (ixN ds.length i).bind _ = _ from hx)
        obtain ⟨rfl, qi⟩ := of_ownA oi
        obtain ⟨v, hv, qv⟩ := qi.get hx
        exact ⟨a, vs, i, v, rfl, rfl, .inl (.inl ha), by unfold atI; rw [qi.1, hj]; exact hv, k G1 H1 v [] B1 s1 st1 (.s qv) st1.nd⟩
      | _ => cases hx
end
section
variable {ι : Type} {Xf : ι → Cx} {P : Program} {w : World} {K : PySem.W.Frag} {mg : Str → Option Value} {base : Heap} {n : Nat} [F : Fam Xf P w K mg base n]
variable {M : Mk} {m m1 m2 mn ml : List Ty} {pos p p2 spos xp : Pos} {a b c v tg iter : Expr} {st : Stmt} {rest body orelse : List Stmt} {f g : Sf} {ef eg : Ef} {bf : Bf} {lf : Lf} {gf : Gf} {sl : List Nat} {ty t1 t2 : Ty}
include F in
theorem ds_parT [FG : FamG Xf] (i j : Nat) {L : List (Option Nat)} {x y : Str} {px py pt pt2 : Pos} {kt k2} (ha : PAL Xf K m [a, b] [t1, t2] L lf m1) (hi : i < m1.length := by decide) (hj : j < m1.length := by decide) (pi : i ∉ M.po := by decide) (pj : j ∉ M.po := by decide) (hij : i ≠ j := by decide)
    (ni : ∀ z, (Xf z).N[i]? = some x := by intro _; rfl) (nj : ∀ z, (Xf z).N[j]? = some y := by intro _; rfl) (hx : ∀ z, (Xf z).env.scope.names.lookup x = some .local := by intro _; rfl) (hy : ∀ z, (Xf z).env.scope.names.lookup y = some .local := by intro _; rfl)
    (hw : ∀ z, swappedStores [.Tuple [.Name x px, .Name y py] kt pt] (.Tuple [a, b] k2 pt2) (Xf z).env = pure (some [x, y]) := by intro _; rfl) (hs : ∀ z, swapsWithSole [.Tuple [.Name x px, .Name y py] kt pt] (.Tuple [a, b] k2 pt2) pos.line (Xf z).env = pure false := by intro _; rfl) :
    PSd Xf K M m (.Assign [.Tuple [.Name x px, .Name y py] kt pt] (.Tuple [a, b] k2 pt2) pos) (sPar i j lf) ((m1.set i t1).set j t2) := by
  obtain ⟨t, p, d⟩ := ha.ex
  exact ⟨_, fun z => ps_par (FG.calm z) (F.nd z) (ni z) (nj z) hij (hx z) (hy z) (p z) (hw z) (hs z), DS.parT (fun st hf k => d st hf fun G' H' vs Av A' s st' o nd _ => k G' H' vs Av A' s st' o nd) hi hj pi pj⟩
include F in
theorem pd_itmG (j : Nat) {t0 : Ty} {x : Str} (hi : PD Xf K m b .s ef m1) (h0 : m[j]? = some t0 := by rfl) (hl0 : lstTy t0 = true := by rfl) (hm : m1[j]? = some (.l .s) := by rfl) (hN : ∀ i, (Xf i).N[j]? = some x := by intro _; rfl)
    (hv : ∀ i, Vis (Xf i).env.scope x := by first | (intro _; exact Or.inl rfl) | (intro _; exact Or.inr (Or.inl rfl)) | (intro _; exact Or.inr (Or.inr rfl))) (hd : (x == ("__debug__" : Str)) = false := by decide) (hcd : (x == ("__classdict__" : Str)) = false := by decide) (hs : PlainIx b := by exact fun _ _ => rfl) :
    PD Xf K m (.Subscript (.Name x xp) b pos) .s (eItmG j ef) m1 := by
  obtain ⟨tb, pb, db⟩ := hi.ex
  exact ⟨_, fun i => by have := pe_ix (ix_list (X := Xf i)) (pe_var (pos := xp) (hN i) (hv i) hd hcd) (pb i) hs (pos := pos); rw [F.kk i] at this; exact this, DE.itmG h0 hl0 db hm⟩

/-! ### list(range(..)), tuple(range(..)) -/
def eRg1 (f : Ef) : Lf := fun e => (f e).bind fun p => (rng1 p.1).bind fun ds => some (ds, p.2)
structure PRd {ι : Type} (Xf : ι → Cx) (K : PySem.W.Frag) (m : List Ty) (e : Expr) (f : Lf) (m' : List Ty) : Prop where
  ex : ∃ te : St → Hp → (Int → Int → Hp → Prop) → Prop, (∀ i, PRg (Xf i) e te) ∧ ∀ {G H : Hp} {σ : St} {e : En} {A : List Addr} {ds : List PyData} {e' : En} {Q : Int → Int → Hp → Prop}, Stt K m G H σ e A → f e = some (ds, e') →
    (∀ (G' H' : Hp) (A' : List Addr) (a b : Int), Step A G H A' G' H' → Stt K m' G' H' σ e' A' → RgOk a b → ds = rngD a (b - a).toNat → Q a b H') → te σ H Q
theorem sz24 {n : Nat} (h : n ≤ sizeLine) : n ≤ 2 ^ 24 := by rw [sizeLine_eq] at h; omega
include F in
theorem pr_1 (hm : mg "range" = none) (ha : PD Xf K m a .s ef m1) (hg : ∀ i, Gl (Xf i) "range" := by intro _; rfl) (na : ∀ i, starEach [a] (Xf i).env = (false, eval a (Xf i).env) :: starEach [] (Xf i).env := by intro _; rfl) : PRd Xf K m (.Call (.Name "range" p) [a] [] pos) (iR1 ef) m1 := by
  obtain ⟨ta, pa, da⟩ := ha.ex
  refine ⟨_, fun i => prg_1 (hg i) (by rw [F.mg_ i]; exact hm) (pa i) (na i), fun {G H σ e A ds e' Q} st hf k => ?_⟩
  obtain ⟨⟨d1, e1⟩, hf1, hf⟩ := Option.bind_eq_some_iff.mp hf
  obtain ⟨ds1, hf2, hf⟩ := Option.bind_eq_some_iff.mp hf
  cases hf
  refine da st hf1 fun G1 H1 v1 A1 B1 s1 st1 o1 nd1 => ?_
  cases o1 with
  | s q1 =>
    cases d1 with
    | int j =>
      obtain ⟨hz, rfl⟩ := ite_some hf2
      replace hz := And.intro hz.2.1 (And.intro hz.2.2 hz.1)
      obtain rfl := dq_int q1
      exact ⟨j, rfl, k G1 H1 B1 0 j s1 st1 ⟨by omega, by omega, hz.1, hz.2.1, by rw [Int.sub_zero]; exact sz24 hz.2.2⟩ (by rw [Int.sub_zero])⟩
    | _ => cases hf2
include F in
theorem pr_2 (hm : mg "range" = none) (ha : PD Xf K m a .s ef m1) (hb : PD Xf K m1 b .s eg m2) (hg : ∀ i, Gl (Xf i) "range" := by intro _; rfl) (na : ∀ i, starEach [a, b] (Xf i).env = (false, eval a (Xf i).env) :: starEach [b] (Xf i).env := by intro _; rfl) (nb : ∀ i, starEach [b] (Xf i).env = (false, eval b (Xf i).env) :: starEach [] (Xf i).env := by intro _; rfl) (hp : ∀ i, (backTo pos (starEach [b] (Xf i).env)).any (·.1) = false := by intro _; rfl) :
    PRd Xf K m (.Call (.Name "range" p) [a, b] [] pos) (iR2 ef eg) m2 := by
  obtain ⟨ta, pa, da⟩ := ha.ex
  obtain ⟨tb, pb, db⟩ := hb.ex
  refine ⟨_, fun i => prg_2 (hg i) (by rw [F.mg_ i]; exact hm) (pa i) (pb i) (na i) (nb i) (hp i), fun {G H σ e A ds e' Q} st hf k => ?_⟩
  unfold iR2 at hf
  obtain ⟨⟨d1, e1⟩, hf1, hf⟩ := Option.bind_eq_some_iff.mp hf
  obtain ⟨⟨d2, e2⟩, hf2, hf⟩ := Option.bind_eq_some_iff.mp hf
  obtain ⟨ds1, hf3, hf⟩ := Option.bind_eq_some_iff.mp hf
  cases hf
  refine da st hf1 fun G1 H1 v1 A1 B1 s1 st1 o1 nd1 => ?_
  cases o1 with
  | s q1 =>
    refine db st1 hf2 fun G2 H2 v2 A2 B2 s2 st2 o2 nd2 => ?_
    cases o2 with
    | s q2 =>
      have hf3 : rng2 d1 d2 = some ds := hf3
      unfold rng2 at hf3
      split at hf3
      · obtain ⟨hz, rfl⟩ := ite_some hf3
        replace hz := And.intro hz.2.1 (And.intro hz.2.2.1 (And.intro hz.2.2.2.1 (And.intro hz.2.2.2.2 hz.1)))
        obtain rfl := dq_int q1
        obtain rfl := dq_int q2
        exact ⟨_, _, rfl, rfl, k G2 H2 B2 _ _ (s1.seq0 s2) st2 ⟨hz.1, hz.2.1, hz.2.2.1, hz.2.2.2.1, sz24 hz.2.2.2.2⟩ rfl⟩
      · cases hf3
theorem dqA_rg {G : Hp} {a b : Int} : DqA K G (rgV a b) (rngD a (b - a).toNat) := by
  unfold rgV rngD
  refine ⟨by simp, fun i v d h1 h2 => ?_⟩
  by_cases h : i < (b - a).toNat
  · rw [List.getElem?_map, List.getElem?_range h] at h1 h2
    cases h1; cases h2; exact .int _
  · rw [List.getElem?_map, List.getElem?_eq_none (by simp; omega)] at h1; cases h1
def eLsR (f : Lf) : Ef := fun e => (f e).map fun p => (.list p.1, p.2)
def eTpR (f : Lf) : Ef := fun e => (f e).map fun p => (.tuple p.1, p.2)
include F in
theorem pd_lsR [FG : FamG Xf] (hm : mg "list" = none) (he : PRd Xf K m a lf m1) (hg : ∀ i, Gl (Xf i) "list" := by intro _; rfl) (na : ∀ i, starEach [a] (Xf i).env = (false, eval a (Xf i).env) :: starEach [] (Xf i).env := by intro _; rfl) : PD Xf K m (.Call (.Name "list" p) [a] [] pos) (.l .s) (eLsR lf) m1 := by
  obtain ⟨te, pe, de⟩ := he.ex
  refine ⟨_, fun i => pe_listRg (FG.calm i) (hg i) (by rw [F.mg_ i]; exact hm) (pe i) (na i), fun {G H σ e A d e' Q} st hf k => ?_⟩
  obtain ⟨⟨ds, e1⟩, hf1, hf⟩ := Option.map_eq_some_iff.mp hf
  cases hf
  refine de st hf1 fun G1 H1 A1 x y s1 st1 ok hd => ⟨ok, ?_⟩
  subst hd
  exact ans_lst st1 (dqA_rg (K := K)) (by rw [rgV_length]; have := ok.2.2.2.2; rw [sizeLine_eq]; omega) fun G2 H2 v Av A2 s2 => k G2 H2 v Av A2 (s1.seq0 s2)
include F in
theorem pd_tpR [FG : FamG Xf] (hm : mg "tuple" = none) (he : PRd Xf K m a lf m1) (hg : ∀ i, Gl (Xf i) "tuple" := by intro _; rfl) (na : ∀ i, starEach [a] (Xf i).env = (false, eval a (Xf i).env) :: starEach [] (Xf i).env := by intro _; rfl) : PD Xf K m (.Call (.Name "tuple" p) [a] [] pos) .s (eTpR lf) m1 := by
  obtain ⟨te, pe, de⟩ := he.ex
  refine ⟨_, fun i => pe_tupRgN (FG.calm i) (hg i) (by rw [F.mg_ i]; exact hm) (pe i) (na i), fun {G H σ e A d e' Q} st hf k => ?_⟩
  obtain ⟨⟨ds, e1⟩, hf1, hf⟩ := Option.map_eq_some_iff.mp hf
  cases hf
  refine de st hf1 fun G1 H1 A1 x y s1 st1 ok hd => ⟨ok, ?_⟩
  subst hd
  exact ans_tup st1 (dqA_rg (K := K)) (by rw [rgV_length]; have := ok.2.2.2.2; rw [sizeLine_eq]; omega) fun G2 H2 v Av A2 s2 => k G2 H2 v Av A2 (s1.seq0 s2)
/-- code that is not come to -/
def sNever : Sf := fun _ => none
theorem ds_never : PSd Xf K M m st sNever mn := ⟨tNever, fun _ => ps_never, fun st hf k => by cases hf⟩
/-- x op= e on numbers -/
def sAug (j : Nat) (gg : PyData → PyData → Option PyData) (f : Ef) : Sf := fun e => (f e).bind fun p => (gg (p.2.getD j .none) p.1).map fun d => (.nx, p.2.set j d)
end
/-! ### repr -/
def rRepr (K : PySem.W.Frag) : List V → Hp → VK → Prop := fun vs H Q => ∃ x d, vs = [x] ∧ Dq K H x d ∧ gRepr d = some (.str d.shown) ∧ Q (.str d.shown) H
/-- what one value needs so that it can be shown within another -/
def Shw (P : Program) (w : World) (h : Heap) (u : Value) (d : PyData) : Prop :=
  d.showable = true → d.shown.length ≤ sizeLine → (∃ as, Reads h u d as) ∧ ∃ bs, ReadAtMost h d.depth bs ∧ ReprK P w bs h d.depth u d.shown
theorem shw_all {P : Program} {w : World} {h : Heap} : ∀ {us : List Value} {ds : List PyData}, us.length = ds.length → (∀ (i : Nat) u d, us[i]? = some u → ds[i]? = some d → Shw P w h u d) →
    PyData.showableAll ds = true → (∀ t ∈ PyData.shownAll ds, t.length ≤ sizeLine) → (∃ as, ReadsAll h us ds as) ∧ ∃ bs, ReadAtMost h (PyData.depthAll ds) bs ∧ ReprAllK P w bs h (PyData.depthAll ds) us (PyData.shownAll ds)
  | [], [], _, _, _, _ => ⟨⟨_, .nil⟩, [], (fun b hb => by cases hb), by rw [PyData.shownAll]; exact .nil⟩
  | u :: us, d :: ds, hl, hi, hs, hz => by
    unfold PyData.showableAll at hs
    rw [Bool.and_eq_true] at hs
    unfold PyData.shownAll at hz ⊢
    unfold PyData.depthAll
    obtain ⟨⟨a1, r1⟩, b1, m1, k1⟩ := hi 0 u d rfl rfl hs.1 (hz _ (List.mem_cons_self ..))
    obtain ⟨⟨a2, r2⟩, b2, m2, k2⟩ := shw_all (us := us) (ds := ds) (by simpa using hl) (fun i u d h1 h2 => hi (i + 1) u d (by simpa using h1) (by simpa using h2)) hs.2 fun t ht => hz t (List.mem_cons_of_mem _ ht)
    refine ⟨⟨_, .cons r1 r2⟩, b1 ++ b2, (m1.mono (Nat.le_max_left _ _)).append (m2.mono (Nat.le_max_right _ _)), ?_⟩
    exact .cons ((k1.more fun _ z => List.mem_append_left _ z).level_le (Nat.le_max_left ..)) (k2.more_le (fun _ z => List.mem_append_right _ z) (Nat.le_max_right ..))
  | [], _ :: _, hl, _, _, _ => by simp at hl
  | _ :: _, [], hl, _, _, _ => by simp at hl
theorem nodictK : ∀ kvs : List (Str × Int), PyData.hasDictAll ((kvs.map fun p => (PyData.str p.1, PyData.int p.2)).map (·.1)) = false ∧ PyData.hasDictAll ((kvs.map fun p => (PyData.str p.1, PyData.int p.2)).map (·.2)) = false
  | [] => ⟨rfl, rfl⟩
  | p :: kvs => by
    obtain ⟨h1, h2⟩ := nodictK kvs
    simp only [List.map_cons, PyData.hasDictAll, h1, h2]
    exact ⟨rfl, rfl⟩
theorem vals_at {xs : List V} {us : List Value} (r : Vals xs us) {i : Nat} {u : Value} (h : us[i]? = some u) : ∃ v, xs[i]? = some v ∧ RelV v u := by
  have hi : i < xs.length := by rw [r.length]; exact (List.getElem?_eq_some_iff.mp h).1
  obtain ⟨u', e, q⟩ := r.get (List.getElem?_eq_getElem hi)
  rw [h] at e
  cases e
  exact ⟨_, List.getElem?_eq_getElem hi, q⟩
section
variable {X : Cx} {pins : List (Addr × Obj)} {σ : St} {H : Hp} {s : Shared}
theorem Dq.shw (I : L2.Inv X pins σ H s) {v : V} {d : PyData} (h : Dq X.K H v d) : ∀ {u : Value}, RelV v u → Shw X.prog X.w s.heap u d := by
  induction h with
  | non => intro u r _ _; cases r; exact ⟨⟨_, .none⟩, [], (fun b hb => by cases hb), by rw [PyData.shown]; exact .of_is ReprIs.none _ _ _⟩
  | bl b => intro u r _ _; cases r; exact ⟨⟨_, .bool b⟩, [], (fun b hb => by cases hb), by rw [PyData.shown]; exact .of_is (ReprIs.bool b) _ _ _⟩
  | int i =>
    intro u r hs _
    obtain ⟨t, rfl⟩ := r
    exact ⟨⟨_, .int i t⟩, [], (fun b hb => by cases hb), by rw [PyData.shown]; exact .of_is (ReprIs.int t (by simpa [PyData.showable] using hs)) _ _ _⟩
  | str x _ =>
    intro u r _ hz
    obtain ⟨t, rfl⟩ := r
    exact ⟨⟨_, .str x t⟩, [], (fun b hb => by cases hb), by rw [PyData.shown]; exact .of_is (ReprIs.str x t (by simpa only [PyData.shown] using hz)) _ _ _⟩
  | @lst a xs ds h1 hl _ _ ih =>
    intro u r hs hz
    cases r
    unfold PyData.shown at hz
    obtain ⟨_, its, n, rv, ho⟩ := rdL I h1
    obtain ⟨⟨as, ra⟩, bs, m, k⟩ := shw_all (P := X.prog) (w := X.w) (h := s.heap) (us := its) (ds := ds) (by rw [← rv.length]; exact hl) (fun i u d hu hd => by
      obtain ⟨v, hv, q⟩ := vals_at rv hu
      exact ih i v d hv hd q) (by simpa [PyData.showable] using hs) fun t ht => Nat.le_trans (listText_mem_le ht) hz
    have rr : Reads s.heap (.ref a) (.list ds) _ := .list ho rfl rfl ra
    have nin : a ∉ bs := not_mem_of_deeper rr (by unfold PyData.depth; omega) m
    refine ⟨⟨_, rr⟩, a :: bs, ReadAtMost.cons rr (by unfold PyData.depth; omega) m, ?_⟩
    unfold PyData.depth PyData.shown
    cases its with
    | nil =>
      cases ra
      rw [PyData.shownAll, listText_nil]
      exact ReprK.listEmpty ho rfl rfl
    | cons y its => exact ReprK.list ho rfl rfl nin (by simpa using k.length_eq) fun i z e => k.item i z (by simpa using e)
  | @tup a xs ds h1 hl _ _ ih =>
    intro u r hs hz
    cases r
    unfold PyData.shown at hz
    obtain ⟨its, rv, ⟨o, ho, hc, n, hd⟩, _⟩ := I.tuple h1.sq
    obtain ⟨⟨as, ra⟩, bs, m, k⟩ := shw_all (P := X.prog) (w := X.w) (h := s.heap) (us := its) (ds := ds) (by rw [← rv.length]; exact hl) (fun i u d hu hd => by
      obtain ⟨v, hv, q⟩ := vals_at rv hu
      exact ih i v d hv hd q) (by simpa [PyData.showable] using hs) fun t ht => Nat.le_trans (tupleText_mem_le ht) hz
    have rr : Reads s.heap (.ref a) (.tuple ds) _ := .tuple ho hc hd ra
    have nin : a ∉ bs := not_mem_of_deeper rr (by unfold PyData.depth; omega) m
    refine ⟨⟨_, rr⟩, a :: bs, ReadAtMost.cons rr (by unfold PyData.depth; omega) m, ?_⟩
    unfold PyData.depth PyData.shown
    exact ReprK.tuple ho hc hd nin k
  | @dic a kvs h1 _ =>
    intro u r hs hz
    cases r
    unfold PyData.shown at hz
    obtain ⟨o, es, ep, ho, hx, hd, hp, hne⟩ := rdD I h1
    obtain ⟨as, ra, bs, rb⟩ := readsKV_of (h := s.heap) hp
    have rr : Reads s.heap (.ref a) (.dict (kvs.map fun p => (PyData.str p.1, PyData.int p.2))) _ := Reads.dict (as := as) (bs := bs) ho hx.1 hd (by rw [List.map_map]; exact ra) (by rw [List.map_map]; exact rb)
    obtain ⟨s1, s2⟩ := PyData.showableKv_split _ (by simpa [PyData.showable] using hs)
    obtain ⟨nd1, nd2⟩ := nodictK kvs
    obtain ⟨b1, m1, k1⟩ := ReprAllK.of_readsAll (prog := X.prog) (w := X.w) (by rw [List.map_map]; exact ra : ReadsAll s.heap (es.toList.map (·.key)) ((kvs.map fun p => (PyData.str p.1, PyData.int p.2)).map (·.1)) as) s1 (fun z => by rw [nd1] at z; cases z) fun t ht => by
      obtain ⟨p, hp, hl⟩ := PyData.shownKv_key_le _ t ht
      exact Nat.le_trans hl (Nat.le_trans (dictText_mem_le hp) hz)
    obtain ⟨b2, m2, k2⟩ := ReprAllK.of_readsAll (prog := X.prog) (w := X.w) (by rw [List.map_map]; exact rb : ReadsAll s.heap (es.toList.map (·.val)) ((kvs.map fun p => (PyData.str p.1, PyData.int p.2)).map (·.2)) bs) s2 (fun z => by rw [nd2] at z; cases z) fun t ht => by
      obtain ⟨p, hp, hl⟩ := PyData.shownKv_val_le _ t ht
      exact Nat.le_trans hl (Nat.le_trans (dictText_mem_le hp) hz)
    have m := (m1.mono (PyData.depthAll_keys_le _)).append (m2.mono (PyData.depthAll_vals_le _))
    have nin : a ∉ b1 ++ b2 := not_mem_of_deeper rr (by unfold PyData.depth; omega) m
    refine ⟨⟨_, rr⟩, a :: (b1 ++ b2), ReadAtMost.cons rr (by unfold PyData.depth; omega) m, ?_⟩
    unfold PyData.depth PyData.shown
    rw [PyData.shownKv_eq]
    exact ReprK.dict ho hx.1 hd hne nin (ReprEntriesK.of_two es.toList _ _ (k1.more_le (fun b hb => List.mem_append_left _ hb) (PyData.depthAll_keys_le _)) (k2.more_le (fun b hb => List.mem_append_right _ hb) (PyData.depthAll_vals_le _)))
end
theorem call_reprD {X : Cx} {n : Nat} (hr : Room n X.A) (hg : X.A.guards = some []) : CallR X (.builtin "repr") (rRepr X.K) := by
  intro pins s σ H vs us Q I r h
  obtain ⟨x, d, rfl, q, hd, k⟩ := h
  obtain ⟨u, rfl, rx⟩ := vals1 r
  obtain ⟨h1, h3, h4⟩ := (ite_some hd).1
  have un := hr.un
  have fin : ∀ (h' : Heap) (t tk : Nat), (∀ b o, s.heap.get? b = some o → h'.get? b = some o) → EP X pins σ Q (.str d.shown t) { s with heap := h', toks := tk } := fun h' t tk hk => ⟨.str d.shown, H, I.kept (t' := tk) hk, ⟨t, rfl⟩, k⟩
  have q0 := q
  cases q with
  | non => cases rx; exact PySem.P.repr_of_none (fin s.heap s.toks (s.toks + 1) fun _ _ e => e)
  | bl b => cases rx; exact PySem.P.repr_of_bool (fin s.heap s.toks (s.toks + 1) fun _ _ e => e)
  | int i =>
    obtain ⟨t, rfl⟩ := rx
    exact PySem.P.repr_of_int (by simpa [PyData.showable] using h1) (fin s.heap s.toks (s.toks + 1) fun _ _ e => e)
  | str z hz =>
    obtain ⟨t, rfl⟩ := rx
    exact PySem.P.repr_of_str (fin s.heap s.toks (s.toks + 1) fun _ _ e => e) h4
  | @lst a xs ds hs hl _ hq =>
    cases rx
    unfold PyData.shown at h4 fin
    unfold PyData.depth at h3
    obtain ⟨_, its, m, rv, ho⟩ := rdL I hs
    obtain ⟨⟨as, ra⟩, bs, mm, kk⟩ := shw_all (P := X.prog) (w := X.w) (h := s.heap) (us := its) (ds := ds) (by rw [← rv.length]; exact hl) (fun i u d hu hd => by
      obtain ⟨v, hv, q⟩ := vals_at rv hu
      exact (hq i v d hv hd).shw I q) (by simpa [PyData.showable] using h1) fun t ht => Nat.le_trans (listText_mem_le ht) h4
    have rr : Reads s.heap (.ref a) (.list ds) _ := .list ho rfl rfl ra
    have nin : a ∉ bs := not_mem_of_deeper rr (by unfold PyData.depth; omega) mm
    refine call_repr_slot (by omega) ⟨_, ho, rfl⟩ PySem.F.slot_list_repr.toG ?_
    cases its with
    | nil =>
      cases ra
      exact call_list_repr_empty ⟨_, ho, rfl⟩ ho rfl ⟨_, _, rfl, by
        have := fin s.heap s.toks (s.toks + 1) fun _ _ e => e
        rw [PyData.shownAll, listText_nil] at this
        exact this⟩
    | cons y its =>
      exact call_list_reprK ho rfl rfl nin (by simpa using kk.length_eq) (fun i z e => kk.item i z (by simpa using e)) hg (fun b _ => Clear.nil b) (by show X.A.units + 1 + _ < cLine; omega) (fun _ _ e => e) (fun h' t tk hk => ⟨_, _, rfl, fin h' t tk hk⟩) h4
  | @tup a xs ds hs hl _ hq =>
    cases rx
    unfold PyData.shown at h4 fin
    unfold PyData.depth at h3
    obtain ⟨its, rv, ⟨o, ho, hc, m, hdd⟩, _⟩ := I.tuple hs.sq
    obtain ⟨⟨as, ra⟩, bs, mm, kk⟩ := shw_all (P := X.prog) (w := X.w) (h := s.heap) (us := its) (ds := ds) (by rw [← rv.length]; exact hl) (fun i u d hu hd => by
      obtain ⟨v, hv, q⟩ := vals_at rv hu
      exact (hq i v d hv hd).shw I q) (by simpa [PyData.showable] using h1) fun t ht => Nat.le_trans (tupleText_mem_le ht) h4
    have rr : Reads s.heap (.ref a) (.tuple ds) _ := .tuple ho hc hdd ra
    have nin : a ∉ bs := not_mem_of_deeper rr (by unfold PyData.depth; omega) mm
    exact call_repr_slot (by omega) ⟨_, ho, hc⟩ PySem.F.slot_tuple_repr (call_tuple_reprK ho hc hdd nin kk hg (fun b _ => Clear.nil b) (by show X.A.units + 1 + _ < cLine; omega) (fun _ _ e => e) (fun h' t tk hk => ⟨_, _, rfl, fin h' t tk hk⟩) h4)
  | @dic a kvs hs hz =>
    cases rx
    obtain ⟨o, es, ep, ho, hx, hdd, hp, hne⟩ := rdD I hs
    obtain ⟨as, ra, bs, rb⟩ := readsKV_of (h := s.heap) hp
    have rr : Reads s.heap (.ref a) (.dict (kvs.map fun p => (PyData.str p.1, PyData.int p.2))) _ := Reads.dict (as := as) (bs := bs) ho hx.1 hdd (by rw [List.map_map]; exact ra) (by rw [List.map_map]; exact rb)
    have em : ∀ {us : List Value} {ds : List PyData} {as : List Addr}, ReadsAll s.heap us ds as → (∀ d ∈ ds, (∃ z, d = .str z) ∨ ∃ i, d = .int i) → as = [] := fun {us ds as} r => by
      induction ds generalizing us as with
      | nil => intro _; cases r; rfl
      | cons d ds ih =>
        intro hd
        cases r with
        | cons r1 r2 =>
          rw [ih r2 fun d h => hd d (List.mem_cons_of_mem _ h)]
          rcases hd d (List.mem_cons_self ..) with ⟨z, rfl⟩ | ⟨i, rfl⟩
          · cases r1; rfl
          · cases r1; rfl
    have ea : as = [] := em ra fun d hd => by
      obtain ⟨p, _, rfl⟩ := List.mem_map.mp hd
      exact .inl ⟨_, rfl⟩
    have eb : bs = [] := em rb fun d hd => by
      obtain ⟨p, _, rfl⟩ := List.mem_map.mp hd
      exact .inr ⟨_, rfl⟩
    exact PySem.repr_of_reads' rr h1 (fun _ z => by
      rw [ea, eb] at z
      simp only [List.append_nil, List.mem_singleton] at z
      rw [← z] at hne
      simp at hne) hg (by omega) (fun _ _ e => e) (fun h' t tk hk => fin h' t tk hk) h4
section
variable {ι : Type} {Xf : ι → Cx} {P : Program} {w : World} {K : PySem.W.Frag} {mg : Str → Option Value} {base : Heap} {n : Nat} [F : Fam Xf P w K mg base n] [FG : FamG Xf]
include F FG in
theorem clRepr : Cl1 Xf K (.builtin "repr") .s gRepr := by
  refine ⟨rRepr K, fun i => by have := call_reprD (X := Xf i) (rmOf F FG i) (FG.gd i); rw [F.kk i] at this; exact this, fun {m G H σ e A x dx d Q} st hx ee k => ?_⟩
  have ee' := ee
  obtain ⟨hc, rfl⟩ := ite_some ee
  exact ⟨x, dx, rfl, hx.mono st.sub, ee', ans_s st (.str _ hc.2.2) k⟩
end
end DL

namespace DL
open PySem L2 PySem.Spec

/-! ### two variables lent -/
section
variable {K : PySem.W.Frag} {G H : Hp}
theorem lend_in {tys m : List Ty} {ds e : List PyData} {vs : List V} {σ : St} {A1 B1 : List Addr} {k j : Nat} {t : Ty} {v0 : V} (oA : OwnA K G H tys ds (vs.map some) A1) (oB : OwnA K G H m e σ B1) (hm : m[j]? = some t) (hu : tys[k]? = some .u) (hv : vs[k]? = some v0) (hs : σ[j]? = some (some v0)) :
    ∃ A2 B2, OwnA K G H (tys.set k t) (ds.set k (e.getD j .none)) (vs.map some) A2 ∧ OwnA K G H (m.set j .u) e σ B2 ∧ (A1 ++ B1).Perm (A2 ++ B2) := by
  obtain ⟨dj, vj, Aj, B0, h1, h2, h3, h4, hp⟩ := ownA_take oB hm
  rw [hs] at h2
  obtain rfl := Option.some.inj h2
  obtain ⟨A2, o2, p2⟩ := ownA_put oA hu h3
  have hvs : (vs.map some).set k (some v0) = vs.map some := set_id (by rw [List.getElem?_map, hv]; rfl)
  rw [hvs] at o2
  have ed : e.getD j .none = dj := by rw [List.getD_eq_getElem?_getD, h1]; rfl
  rw [ed]
  refine ⟨A2, B0, o2, h4, List.perm_iff_count.mpr fun z => ?_⟩
  have a := List.perm_iff_count.mp hp z
  have b := List.perm_iff_count.mp p2 z
  simp only [List.count_append] at a b ⊢
  omega
theorem lend_out {tys m : List Ty} {fs e : List PyData} {vs : List V} {σ : St} {A3 B3 : List Addr} {k j : Nat} {t : Ty} {v0 : V} (oA : OwnA K G H tys fs (vs.map some) A3) (oB : OwnA K G H m e σ B3) (hk : tys[k]? = some t) (hu : m[j]? = some .u) (hv : vs[k]? = some v0) (hs : σ[j]? = some (some v0)) :
    ∃ A4 B4, OwnA K G H (tys.set k .u) fs (vs.map some) A4 ∧ OwnA K G H (m.set j t) (e.set j (fs.getD k .none)) σ B4 ∧ (A3 ++ B3).Perm (A4 ++ B4) := by
  obtain ⟨df, vf, Af, A4, g1, g2, g3, g4, gp⟩ := ownA_take oA hk
  have hvf : vf = some v0 := by rw [List.getElem?_map, hv] at g2; exact (Option.some.inj g2).symm
  subst hvf
  obtain ⟨B2, o4, p4⟩ := ownA_put oB hu g3
  rw [set_id (l := σ) hs] at o4
  have ef : fs.getD k .none = df := by rw [List.getD_eq_getElem?_getD, g1]; rfl
  rw [ef]
  refine ⟨A4, B2, g4, o4, List.perm_iff_count.mpr fun z => ?_⟩
  have a := List.perm_iff_count.mp gp z
  have b := List.perm_iff_count.mp p4 z
  simp only [List.count_append] at a b ⊢
  omega
end
def eCallL2 (Fn : DFn) (k1 j1 k2 j2 : Nat) (r : Lf) : Ef := fun e => (r e).bind fun p => (Fn ((p.1.set k1 (p.2.getD j1 .none)).set k2 (p.2.getD j2 .none))).bind fun q => some (q.1, (p.2.set j2 (q.2.getD k2 .none)).set j1 (q.2.getD k1 .none))
section
variable {ι : Type} {Xf : ι → Cx} {P : Program} {w : World} {K : PySem.W.Frag} {mg : Str → Option Value} {base : Heap} {n : Nat} [F : Fam Xf P w K mg base n] [FG : FamG Xf]
variable {m m1 m2 m3 : List Ty} {pos p p2 : Pos} {a b c : Expr} {es : List Expr} {f g h : Ef} {fr : Lf} {ty : Ty} {tys : List Ty} {L : List (Option Nat)}
include F FG in
theorem pd_callL2 {k k1 j1 k2 j2 : Nat} {x : Str} {rty t1 t2 : Ty} {Fn : DFn} (c : CalG P w K mg base k x tys rty Fn) {tys' : List Ty} (ha : PAL Xf K m (a :: es) tys' L fr m1) (hm1 : m1[j1]? = some t1 := by rfl) (hm2 : m1[j2]? = some t2 := by rfl) (hj : j1 ≠ j2 := by decide) (hkk : k1 ≠ k2 := by decide) (hL1 : L[k1]? = some (some j1) := by rfl) (hL2 : L[k2]? = some (some j2) := by rfl) (hu1 : tys'[k1]? = some .u := by rfl) (hu2 : tys'[k2]? = some .u := by rfl) (ht : (tys'.set k1 t1).set k2 t2 = tys := by rfl)
    (hk : k ≤ n := by decide) (hg : ∀ i, Gl (Xf i) x := by intro _; rfl)
    (hdb : (x == ("__debug__" : Str)) = false := by decide) (he : ∀ i, starEach (a :: es) (Xf i).env = (false, eval a (Xf i).env) :: starEach es (Xf i).env := by intro _; rfl) (hpl : ∀ i, (backTo pos (starEach es (Xf i).env)).any (·.1) = false := by intro _; rfl) :
    PD Xf K m (.Call (.Name x p) (a :: es) [] pos) rty (eCallL2 Fn k1 j1 k2 j2 fr) m1 := by
  obtain ⟨ta, pa, da⟩ := ha.ex
  refine ⟨_, fun i => pe_callG c hk i (hg i) (pa i) hdb (he i) (hpl i), fun {G H σ e A d e' Q} st hf k' => ?_⟩
  unfold eCallL2 at hf
  obtain ⟨⟨ds, e1⟩, hf1, hf⟩ := Option.bind_eq_some_iff.mp hf
  obtain ⟨⟨d1, fs⟩, hf2, hf⟩ := Option.bind_eq_some_iff.mp hf
  cases hf
  refine da st hf1 fun G1 H1 vs A1 B1 s1 st1 o1 nd1 lk => ?_
  obtain ⟨v1, hv1, hs1⟩ := lk k1 j1 hL1
  obtain ⟨v2, hv2, hs2⟩ := lk k2 j2 hL2
  obtain ⟨A2, B2, oA2, oB2, p2⟩ := lend_in o1 st1.own hm1 hu1 hv1 hs1
  have hm2' : (m1.set j1 .u)[j2]? = some t2 := by rw [List.getElem?_set_ne hj]; exact hm2
  have hu2' : (tys'.set k1 t1)[k2]? = some .u := by rw [List.getElem?_set_ne hkk]; exact hu2
  obtain ⟨A3, B3, oA3, oB3, p3⟩ := lend_in oA2 oB2 hm2' hu2' hv2 hs2
  rw [ht] at oA3
  have pall : (A1 ++ B1).Perm (B3 ++ A3) := (p2.trans p3).trans List.perm_append_comm
  have nd3 : (B3 ++ A3).Nodup := pall.nodup_iff.mp nd1
  have n3 := List.nodup_append.mp nd3
  refine ⟨_, _, fs, G1, A3, hf2, oA3, n3.2.1, st1.sub, fun G2 H2 v Av A4 s2 o4 ov nd4 sub2 => ?_⟩
  have s1' : Step A G H (B3 ++ A3) G1 H1 := ⟨s1.sg, s1.fr, fun a ha => s1.own a (pall.mem_iff.mpr ha), s1.gnew⟩
  obtain ⟨s3, nd5, hg', hh'⟩ := s1'.seq (ownA_at oB3) nd3 s2 nd4
  have oB4 := ownA_fr oB3 s2.sg hg' hh'
  have hk2 : tys[k2]? = some t2 := by
    rw [← ht, List.getElem?_set_self]
    have := (List.getElem?_eq_some_iff.mp hu2').1
    exact this
  have hk1 : tys[k1]? = some t1 := by
    rw [← ht, List.getElem?_set_ne (Ne.symm hkk), List.getElem?_set_self]
    exact (List.getElem?_eq_some_iff.mp hu1).1
  have hu3 : ((m1.set j1 .u).set j2 .u)[j2]? = some .u := by rw [List.getElem?_set_self (List.getElem?_eq_some_iff.mp hm2').1]
  obtain ⟨A5, B5, oA5, oB5, p5⟩ := lend_out o4 oB4 hk2 hu3 hv2 hs2
  rw [List.set_set, set_id hm2'] at oB5
  have hk1' : (tys.set k2 .u)[k1]? = some t1 := by rw [List.getElem?_set_ne (Ne.symm hkk)]; exact hk1
  have hu4 : (m1.set j1 .u)[j1]? = some .u := by rw [List.getElem?_set_self (List.getElem?_eq_some_iff.mp hm1).1]
  obtain ⟨A6, B6, oA6, oB6, p6⟩ := lend_out oA5 oB5 hk1' hu4 hv1 hs1
  rw [List.set_set, set_id hm1] at oB6
  have n5 := List.nodup_append.mp nd5
  have n6 := List.nodup_append.mp n5.2.1
  have pB : (B3 ++ A4).Perm (A6 ++ B6) := List.perm_append_comm.trans (p5.trans p6)
  have ndB : (B3 ++ A4).Nodup := List.nodup_append.mpr ⟨n5.1, n6.2.1, fun a ha b hb z => n5.2.2 a ha b (List.mem_append_right _ hb) z⟩
  have nB6 := (List.nodup_append.mp (pB.nodup_iff.mp ndB)).2.1
  have in6 : ∀ a ∈ B6, a ∈ B3 ∨ a ∈ A4 := fun a ha => List.mem_append.mp (pB.mem_iff.mpr (List.mem_append_right _ ha))
  refine k' G2 H2 v Av B6 (s3.less fun a ha => ?_) ⟨oB6, nB6, sub2⟩ ov (List.nodup_append.mpr ⟨n6.1, nB6, fun a ha b hb z => ?_⟩)
  · rcases List.mem_append.mp ha with z | z
    · exact List.mem_append_right _ (List.mem_append_left _ z)
    · rcases in6 a z with q | q
      · exact List.mem_append_left _ q
      · exact List.mem_append_right _ (List.mem_append_right _ q)
  · subst z
    rcases in6 a hb with q | q
    · exact n5.2.2 a q a (List.mem_append_left _ ha) rfl
    · exact n6.2.2 a ha a q rfl
end
end DL

namespace DL
open PySem L2 PySem.Spec

/-! ### x[::-1] -/
section
open PyProof.Rows PySem.SeqAt PySem.MeetsSeq PySem.MeetsSeq2 PySem.MeetsSeq3 HT
variable {prog : Program} {w : World} {A : Around} {E : Value → Shared → Prop} {s : Shared}
theorem back_parts {sl : Addr} {n : Nat} {u : Tok} {Q : Int × Int × Nat → Shared → Prop} (hs : s.heap.IsSliceOf sl .none .none (.int (-1) u)) (h : Q ((n : Int) - 1, -1, n) s) : wpAny (model prog w) A (Builtin.Slice.sliceApplied (.ref sl) (pure (n : Int))) Q E s := by
  obtain ⟨ob, ho, _, hd⟩ := id hs
  unfold Builtin.Slice.sliceApplied Builtin.Slice.sliceFields
  refine wpAny_bind (wpAny_bind (wpAny_field ho hd (x := .none) rfl (wpAny_bind (wpAny_field ho hd (x := .none) rfl (wpAny_bind (wpAny_field ho hd (x := .int (-1) u) rfl (wpAny_pure ?_)))))))
  refine wpAny_bind (slicePart_int ?_)
  show wpAny _ _ (if ((-1 : Int) == 0) = true then _ else _) _ _ s
  rw [if_neg (by decide)]
  refine wpAny_bind (slicePart_none (wpAny_bind (slicePart_none (wpAny_bind (wpAny_pure ?_)))))
  have e : Builtin.Slice.slicePlaces ((n : Int) - 1) (-1) (-1) = n := by
    unfold Builtin.Slice.slicePlaces
    rw [if_neg (by decide)]
    split
    · rw [show (-(-1 : Int)) = 1 by decide, Int.ediv_one]; omega
    · omega
  show wpAny _ _ (pure ((n : Int) - 1, (-1 : Int), Builtin.Slice.slicePlaces ((n : Int) - 1) (-1) (-1))) _ _ s
  rw [e]
  exact wpAny_pure h
theorem fm_some {α β : Type} {f : α → Option β} {g : α → β} : ∀ {l : List α}, (∀ k ∈ l, f k = some (g k)) → l.filterMap f = l.map g
  | [], _ => rfl
  | k :: l, h => by rw [List.filterMap_cons_some (h k (List.mem_cons_self ..)), fm_some fun x hx => h x (List.mem_cons_of_mem _ hx), List.map_cons]
theorem back_pick (xs : Array Value) : ((List.range xs.size).filterMap fun (k : Nat) => xs[(((xs.size : Int) - 1) + (k : Int) * (-1)).toNat]?).toArray = xs.toList.reverse.toArray := by
  have e : (List.range xs.size).filterMap (fun (k : Nat) => xs[(((xs.size : Int) - 1) + (k : Int) * (-1)).toNat]?) = (List.range xs.size).map fun k => xs.toList.reverse.getD k Value.none := by
    refine fm_some fun k hk => ?_
    have hk := List.mem_range.mp hk
    have i1 : (((xs.size : Int) - 1) + (k : Int) * (-1)).toNat = xs.size - 1 - k := by omega
    rw [i1]
    have hl : k < xs.toList.length := by rw [Array.length_toList]; exact hk
    have : xs.toList.reverse[k]? = xs.toList[xs.toList.length - 1 - k]? := List.getElem?_reverse hl
    rw [Array.length_toList] at this
    have key : xs.toList[xs.size - 1 - k]? = xs[xs.size - 1 - k]? := by simp
    rw [List.getD_eq_getElem?_getD, this, key, Array.getElem?_eq_getElem (by omega)]
    rfl
  rw [e]
  congr 1
  apply List.ext_getElem?
  intro k
  by_cases hk : k < xs.size
  · have hl : k < xs.toList.reverse.length := by rw [List.length_reverse, Array.length_toList]; exact hk
    rw [List.getElem?_map, List.getElem?_range hk, List.getElem?_eq_getElem hl]
    simp [List.getD_eq_getElem?_getD, List.getElem?_eq_getElem hl]
  · rw [List.getElem?_eq_none (by simp; omega), List.getElem?_eq_none (by simp; omega)]
theorem getItem_back {t sl : Addr} {items : Array Value} {u : Tok} {Q : Value → Shared → Prop} (ht : IsTup s.heap t items) (hs : s.heap.IsSliceOf sl .none .none (.int (-1) u)) (hsz : items.size ≤ sizeLine)
    (h : Q (.ref s.heap.objs.size) { s with heap := s.heap.push { cls := .type "tuple", data := .seq items.toList.reverse.toArray } }) : wpAny (model prog w) A (getItem (.ref t) (.ref sl)) Q E s := by
  have ok : sizeOk (.seq items.toList.reverse.toArray) := by
    show items.toList.reverse.toArray.size ≤ sizeLine
    rw [List.size_toArray, List.length_reverse, Array.length_toList]; exact hsz
  obtain ⟨ob, ho, hc, _⟩ := id hs
  have hT : s.TypeIs (.ref sl) "slice" := ⟨ob, ho, hc⟩
  unfold getItem
  try with_reducible refine wpAny_holding ?_
  first | refine wpAny_bind (wpAny_pure ?_) | skip
  refine wpAny_bind (wpAny_sequenceKey ht.typeIs (by decide) ?_)
  refine wpAny_bind (wpAny_callSpecial?_slot (name := Str.ofString "__getitem__") ht.typeIs PyProof.Rows.slot_tuple_getitem (wpAny_call_entry PyProof.Rows.slot_tuple_getitem ht.typeIs entry_tuple_getitem ?_ (args_tuple_getitem _ _)))
  show wpAny _ _ (Builtin.Tuple.tupleItemsOf (.ref t) >>= _) _ _ s
  refine wpAny_bind (tupleItemsOf_ ht (wpAny_bind (wpAny_typeOf hT ?_)))
  rw [if_pos (by decide)]
  refine wpAny_bind (back_parts hs ?_)
  show wpAny _ _ (if (((items.size : Int) - 1) == 0 && (-1 : Int) == 1 && items.size == items.size) = true then _ else _) _ _ s
  rw [if_neg (by simp), back_pick]
  first
    | exact wpAny_bind (m := Builtin.Tuple.tupleExact _) (wpAny_newObj_type (wpAny_pure ⟨_, rfl, wpAny_pure h⟩) ok)
    | exact wpAny_bind (m := Builtin.Tuple.tupleExact _) (wpAny_newObj_type (wpAny_bind (wpAny_pure (wpAny_pure ⟨_, rfl, wpAny_pure h⟩))) ok)
    | exact wpAny_bind (wpAny_bind (m := Builtin.Tuple.tupleExact _) (wpAny_newObj_type (wpAny_pure (wpAny_pure ⟨_, rfl, wpAny_pure h⟩)) ok))
    | exact wpAny_bind (wpAny_bind (m := Builtin.Tuple.tupleExact _) (wpAny_newObj_type (wpAny_pure ⟨_, rfl, wpAny_pure h⟩) ok))
end
def tBack (K : PySem.W.Frag) (te : TE) : TE := fun σ H Q => te σ H fun x H1 => ∃ a xs, x = .ref a ∧ ((SqT K H1 a xs ∧ NewT H1 xs.reverse Q) ∨ (SqL K H1 a xs ∧ ∀ p, H1 p = none → Q (.ref p) (upd H1 p (.lst xs.reverse))))
section
open PyProof.Rows
theorem pe_back {X : Cx} {e : Expr} {te : TE} {k : Nat} {p1 p2 p3 pos : Pos} (he : PE X e te) : PE X (.Subscript e (.Slice none none (some (.UnaryOp .USub (.Constant (.int 1) k p1) p2)) p3) pos) (tBack X.K te) := by
  refine ⟨fun pins s σ H Q I h => Subscript_ (thn (he.run pins s σ H _ I h) fun v s1 ⟨x, H1, I1, r1, a, xs, ex, q1⟩ => ?_)⟩
  subst ex
  cases r1
  have neg : PO X (some (.UnaryOp .USub (.Constant (.int 1) k p1) p2)) (tPart (tUn (rU fun i => .int (-i)) (tC (.int 1)))) := po_some (pe_un un_neg pe_int)
  refine wpAny_Slice (thn (po_none.run pins s1 σ H1 (fun o H2 => o = none ∧ H2 = H1) I1 ⟨rfl, rfl⟩) fun vl s2 ⟨_, _, I2, pl, el, e2⟩ => ?_)
  subst el; subst e2
  refine thn (po_none.run pins s2 σ _ (fun o H3 => o = none ∧ H3 = _) I2 ⟨rfl, rfl⟩) fun vu s3 ⟨_, _, I3, pu, eu, e3⟩ => ?_
  subst eu; subst e3
  refine thn (neg.run pins s3 σ _ (fun o H4 => o = some (-1) ∧ H4 = _) I3 ⟨1, rfl, -1, rfl, rfl, rfl⟩) fun vs s4 ⟨_, _, I4, ps, eo, e4⟩ => ?_
  subst eo; subst e4
  cases pl; cases pu
  cases ps with
  | int _ t =>
    have I5 := I4.kept (t' := s4.toks) (h' := s4.heap.push { cls := .type "slice", data := .fields #[.none, .none, .int (-1) t] }) fun b ob q => Heap.get?_push_of_some _ q
    rcases q1 with ⟨hq, q⟩ | ⟨hq, q⟩
    · obtain ⟨its, r, ht, hz⟩ := I5.tuple hq
      have hl := r.length
      refine tail_any (ops := [.ref a, .ref s4.heap.objs.size]) ht.typeIs PyProof.Rows.slot_tuple_getitem.lookup ?_ (by with_unfolding_all rfl)
      have hx := newT_ep I5 r.reverse (by rw [List.length_reverse]; exact hz) q
      refine getItem_back ht (Heap.IsSliceOf.new _ .none .none _) (by rw [List.size_toArray]; omega) ?_
      simpa using hx
    · obtain ⟨its, r, ht, hz⟩ := I5.list hq
      have hl := r.length
      refine tail_any (ops := [.ref a, .ref s4.heap.objs.size]) ht.isList.typeIs PySem.slot_list_getitem.lookup ?_ (by with_unfolding_all rfl)
      refine wpAny_getItem_list_slice ht.isList (Heap.IsSliceOf.new _ .none .none _) .none .none (.int _ _) (by decide) ?_ (by rw [List.size_toArray]; omega)
      rw [PySem.W.krv_pick]
      exact ⟨.ref _, _, I5.laid (t' := s4.toks) (o := .lst xs.reverse) (fun b ob q => Heap.get?_push_of_some _ q) (Nat.le_refl _) ⟨by rw [List.length_reverse]; exact hz, _, 0, r.reverse, Heap.get?_push_size _ rfl⟩, rfl, q _ (I5.hok.fresh (Nat.le_refl _))⟩
end
def gBack : PyData → Option PyData
  | .tuple xs => some (.tuple xs.reverse)
  | .list xs => some (.list xs.reverse)
  | _ => none
section
variable {ι : Type} {Xf : ι → Cx} {P : Program} {w : World} {K : PySem.W.Frag} {mg : Str → Option Value} {base : Heap} {n : Nat} [F : Fam Xf P w K mg base n]
variable {m m1 : List Ty} {a : Expr} {ef : Ef} {k : Nat} {p1 p2 p3 pos : Pos}
theorem DqA.rev {G : Hp} {xs : List V} {ds : List PyData} (q : DqA K G xs ds) : DqA K G xs.reverse ds.reverse := by
  refine ⟨by rw [List.length_reverse, List.length_reverse]; exact q.1, fun i v d h1 h2 => ?_⟩
  have hi : i < xs.length := by have := (List.getElem?_eq_some_iff.mp h1).1; rw [List.length_reverse] at this; exact this
  rw [List.getElem?_reverse hi] at h1
  rw [List.getElem?_reverse (by rw [← q.1]; exact hi), ← q.1] at h2
  exact q.2 _ v d h1 h2
include F in
theorem pd_back (ha : PD Xf K m a .s ef m1) : PD Xf K m (.Subscript a (.Slice none none (some (.UnaryOp .USub (.Constant (.int 1) k p1) p2)) p3) pos) .s (e1 gBack ef) m1 := by
  obtain ⟨ta, pa, da⟩ := ha.ex
  refine ⟨_, fun i => by have := pe_back (k := k) (p1 := p1) (p2 := p2) (p3 := p3) (pos := pos) (pa i); rw [F.kk i] at this; exact this, fun {G H σ e A d e' Q} st hf kk => ?_⟩
  unfold e1 at hf
  obtain ⟨⟨d1, e1⟩, hf1, hf⟩ := Option.bind_eq_some_iff.mp hf
  obtain ⟨d2, hf2, hf⟩ := Option.bind_eq_some_iff.mp hf
  cases hf
  refine da st hf1 fun G1 H1 v1 A1 B1 s1 st1 o1 nd1 => ?_
  cases o1 with
  | s q1 =>
    cases d1 with
    | tuple ds =>
      cases hf2
      obtain ⟨b, xs, rfl, r1, z1, qq⟩ := dq_tup q1
      refine ⟨b, xs, rfl, .inl ⟨same_seqT st1.sub r1, ?_⟩⟩
      exact ans_tup st1 qq.rev (by rw [List.length_reverse]; exact z1) fun G2 H2 v Av A2 s2 => kk G2 H2 v Av A2 (s1.seq0 s2)
    | list ds =>
      cases hf2
      obtain ⟨b, xs, rfl, r1, z1, qq⟩ := dq_lst q1
      refine ⟨b, xs, rfl, .inr ⟨.inl (same_rd st1.sub r1), ?_⟩⟩
      exact ans_lst st1 qq.rev (by rw [List.length_reverse]; exact z1) (kfrz rfl fun G2 H2 v Av A2 s2 => kk G2 H2 v Av A2 (s1.seq0 s2))
    | _ => cases hf2
end
end DL

namespace DL
open PySem L2 PySem.Spec

/-! ### slots that nobody reads again are forgotten -/
def fgE (js : List Nat) (e : En) : En := js.foldl (fun e j => e.set j .none) e
def fgOk (js : List Nat) (m : List Ty) : Bool := js.all fun j => match m[j]? with | some .u => true | _ => false
def outE (js jr : List Nat) (o : Out) (e : En) : En := match o with | .rt _ => fgE jr e | _ => fgE js e
def iFg (js : List Nat) (lf : Lf) : Lf := fun e => (lf e).bind fun p => some (p.1, fgE js p.2)
def sPre (js : List Nat) (f : Sf) : Sf := fun e => f (fgE js e)
def sPost (js jr : List Nat) (f : Sf) : Sf := fun e => (f e).bind fun p => some (p.1, outE js jr p.1 p.2)
section
variable {K : PySem.W.Frag} {G H : Hp} {m m1 ml mn : List Ty} {σ : St} {e : En} {A : List Addr} {M : Mk} {f : Sf} {t : TS}
theorem ownA_fg {j : Nat} : ∀ {m : List Ty} {e : En} {σ : St} {A : List Addr} {j : Nat}, m[j]? = some .u → OwnA K G H m e σ A → OwnA K G H m (e.set j .none) σ A := by
  intro m
  induction m with
  | nil => intro e σ A j h; simp at h
  | cons t m ih =>
    intro e σ A j h o
    cases o with
    | @cons _ _ d ds v vs A B o1 o2 =>
      cases j with
      | zero =>
        simp only [List.getElem?_cons_zero, Option.some.injEq] at h
        subst h
        cases o1
        exact OwnA.cons (A := []) (.u _ _) o2
      | succ j =>
        simp only [List.getElem?_cons_succ] at h
        exact OwnA.cons o1 (ih h o2)
theorem stt_fg {js : List Nat} (ok : fgOk js m = true) (st : Stt K m G H σ e A) : Stt K m G H σ (fgE js e) A := by
  induction js generalizing e with
  | nil => exact st
  | cons j js ih =>
    simp only [fgOk, List.all_cons, Bool.and_eq_true] at ok
    refine ih ok.2 ⟨ownA_fg (j := 0) ?_ st.own, st.nd, st.sub⟩
    have := ok.1
    split at this
    · assumption
    · cases this
theorem WalkD.mono {wk : Bool} {G G' : Hp} {J : It} {ds : List PyData} (h : WalkD K wk G J ds) (s : Same G G') : WalkD K wk G' J ds :=
  ⟨fun i H hi s' => h.goes i H hi (s.trans s'), fun H s' => h.stops H (s.trans s'), fun hi s' st y => h.yields hi (s.trans s') st y⟩
theorem DS.post {js jr : List Nat} (h : DS K M m t f mn) (o1 : fgOk js mn = true) (o2 : fgOk js M.b = true) (o3 : fgOk js M.c = true) (o4 : fgOk jr M.r = true) : DS K M m t (sPost js jr f) mn := by
  intro G H σ e A o e' D st hf k
  obtain ⟨⟨o0, e0⟩, hf1, hf⟩ := Option.bind_eq_some_iff.mp hf
  simp only [Option.some.injEq, Prod.mk.injEq] at hf
  obtain ⟨rfl, rfl⟩ := hf
  refine h st hf1 ?_
  cases o0 with
  | nx => exact fun G' H' σ' A' s' st' p' => k G' H' σ' A' s' (stt_fg o1 st') p'
  | bk => exact fun G' H' σ' A' s' st' p' => k G' H' σ' A' s' (stt_fg o2 st') p'
  | ct => exact fun G' H' σ' A' s' st' p' => k G' H' σ' A' s' (stt_fg o3 st') p'
  | rt d => exact fun G' H' σ' v Av A' s' st' ov nd p' => k G' H' σ' v Av A' s' (stt_fg o4 st') ov nd p'
end
section
variable {ι : Type} {Xf : ι → Cx} {K : PySem.W.Frag} {M : Mk} {m m1 ml mn : List Ty} {tg iter : Expr} {lf : Lf} {st : Stmt} {body : List Stmt} {f : Sf}
theorem pi_fg {wk : Bool} (js : List Nat) (h : PIt Xf K wk m tg iter lf m1) (l : LeM m1 ml) (ok : fgOk js ml = true := by decide) : PIt Xf K wk m tg iter (iFg js lf) ml := by
  obtain ⟨wi, p, d⟩ := h.ex
  refine ⟨wi, p, fun {G H σ e A ds e' R} st hf k => ?_⟩
  obtain ⟨⟨ds1, e1⟩, hf1, hf⟩ := Option.bind_eq_some_iff.mp hf
  simp only [Option.some.injEq, Prod.mk.injEq] at hf
  obtain ⟨rfl, rfl⟩ := hf
  refine d st hf1 fun G1 H1 A1 J s1 st1 wk hz => ?_
  obtain ⟨G2, A2, s2, st2⟩ := stt_le l st1
  exact k G2 H1 A2 J (s1.seq0 s2) (stt_fg ok st2) (wk.mono s2.sg) hz
theorem ss_post (js jr : List Nat) (h : PSsd Xf K M m body f mn) (o1 : fgOk js mn = true := by decide) (o2 : fgOk js M.b = true := by decide) (o3 : fgOk js M.c = true := by decide) (o4 : fgOk jr M.r = true := by decide) : PSsd Xf K M m body (sPost js jr f) mn := by
  obtain ⟨t, p, d⟩ := h.ex
  exact ⟨t, p, d.post o1 o2 o3 o4⟩
theorem ds_pre (js : List Nat) (h : PSd Xf K M m1 st f mn) (l : LeM m m1) (ok : fgOk js m1 = true := by decide) : PSd Xf K M m st (sPre js f) mn := by
  obtain ⟨t, p, d⟩ := h.ex
  refine ⟨t, p, fun {G H σ e A o e' D} st hf k => ?_⟩
  obtain ⟨G2, A2, s2, st2⟩ := stt_le l st
  exact d (stt_fg ok st2) hf (k.back s2 Pin.refl)
end
end DL

namespace DL
open PySem L2 PySem.Spec

/-! ### not as a value; dicts displayed; xs.pop(a drawn place); xs.extend -/
def gPopAt (l i : PyData) : Option (PyData × PyData) := match l, i with
  | .list ds, .int k => if -(2 ^ 63) ≤ k ∧ k < 2 ^ 63 then (ixN ds.length k).bind fun j => (ds[j]?).bind fun x => some (x, .list (ds.eraseIdx j)) else none
  | _, _ => none
def gExt (l x : PyData) : Option PyData := match l, x with
  | .list ds, .list es => if ds.length + es.length ≤ sizeLine then some (.list (ds ++ es)) else none
  | _, _ => none
def eNotT (b : Bf) : Ef := fun e => (b e).bind fun p => some (.bool (!p.1), p.2)
def ePopG (j : Nat) (f : Ef) : Ef := fun e => (f e).bind fun p => (gPopAt (p.2.getD j .none) p.1).bind fun q => some (q.1, p.2.set j q.2)
def eExt (j : Nat) (f : Ef) : Ef := fun e => (f e).bind fun p => (gExt (p.2.getD j .none) p.1).bind fun l => some (.none, p.2.set j l)
section
variable {K : PySem.W.Frag} {G H G1 H1 : Hp} {m m1 m2 mn : List Ty} {σ : St} {e : En} {A A1 : List Addr} {t : Ty} {ts : List Ty}
/-- the list of stable items in slot j, ready to be rewritten -/
theorem slot_list {j : Nat} {Av : List Addr} {e1 : En} (s1 : Step A G H (Av ++ A1) G1 H1) (nd : (Av ++ A1).Nodup) (st : Stt K m G1 H1 σ e1 A1) (hm : m[j]? = some (.l .s)) :
    ∃ a vs ds, σ[j]? = some (some (.ref a)) ∧ e1.getD j .none = .list ds ∧ G1 a = none ∧ H1 a = some (.lst vs) ∧ vs.length ≤ sizeLine ∧ DqA K G1 vs ds ∧
      ∀ (vs' : List V) (ds' : List PyData), DqA K G1 vs' ds' → vs'.length ≤ sizeLine → ∃ A2, Step A G H A2 G1 (upd H1 a (.lst vs')) ∧ Stt K m G1 (upd H1 a (.lst vs')) σ (e1.set j (.list ds')) A2 := by
  obtain ⟨dj, vj, Aj, A0, h1, h2, h3, h4, hp⟩ := ownA_take st.own hm
  have n1 := List.nodup_append.mp (hp.nodup_iff.mp st.nd)
  cases h3 with
  | @l _ a vs ds Ai ga ha hz oi =>
    obtain ⟨rfl, q⟩ := of_ownA oi
    have haA : a ∈ A1 := hp.mem_iff.mpr (List.mem_append_left _ (List.mem_singleton.mpr rfl))
    have ne : ∀ b ∈ A0, b ≠ a := fun b hb z => n1.2.2 a (List.mem_singleton.mpr rfl) b hb z.symm
    refine ⟨a, vs, ds, h2, by rw [List.getD_eq_getElem?_getD, h1]; rfl, ga, ha, hz, q, fun vs' ds' q' hz' => ?_⟩
    have fr : ∀ b, b ≠ a → upd H1 a (.lst vs') b = H1 b := fun b hb => upd_ne hb
    have oN : Own K G1 (upd H1 a (.lst vs')) (.l .s) (.list ds') (some (.ref a)) (a :: []) := .l ga upd_same hz' (ownA_of q')
    have hu : (m.set j .u)[j]? = some .u := by rw [List.getElem?_set_self (List.getElem?_eq_some_iff.mp hm).1]
    obtain ⟨A2, o2, p2⟩ := ownA_put (ownA_fr (H' := upd H1 a (.lst vs')) h4 (Same.refl G1) (fun b hb => (ownA_at h4 b hb).1) fun b hb => fr b (ne b hb)) hu oN
    rw [List.set_set, set_id (l := m) hm, set_id (l := σ) h2] at o2
    have inA : ∀ b ∈ A2, b ∈ A1 := fun b hb => hp.mem_iff.mpr (p2.mem_iff.mp hb)
    refine ⟨A2, ⟨s1.sg, fun b o hb hbA => ?_, fun b hb => s1.own b (List.mem_append_right _ (inA b hb)), s1.gnew⟩, ⟨o2, p2.nodup_iff.mpr (hp.nodup_iff.mp st.nd), fun b o hb => ?_⟩⟩
    · have hne : b ≠ a := fun z => by
        rcases s1.own a (List.mem_append_right _ haA) with k | k
        · exact hbA (z ▸ k)
        · rw [← z, hb] at k; cases k
      rw [fr b hne]; exact s1.fr b o hb hbA
    · rw [fr b (ne_of_none hb ga)]; exact st.sub b o hb
theorem DqA.erase {vs : List V} {ds : List PyData} (q : DqA K G vs ds) (j : Nat) : DqA K G (vs.eraseIdx j) (ds.eraseIdx j) := by
  refine ⟨by rw [List.length_eraseIdx, List.length_eraseIdx, q.1], fun i v d h1 h2 => ?_⟩
  rw [List.getElem?_eraseIdx] at h1 h2
  split at h1
  · rename_i hi; rw [if_pos hi] at h2; exact q.2 _ _ _ h1 h2
  · rename_i hi; rw [if_neg hi] at h2; exact q.2 _ _ _ h1 h2
theorem DE.popG {ti : TE} {f : Ef} {j : Nat} (hm : m[j]? = some (.l .s)) (he : DE K m ti .s f m1) (hm1 : m1[j]? = some (.l .s)) : DE K m (tBM K "list" rPopAt (tVar j) (tCons ti tNil)) .s (ePopG j f) m1 := by
  intro G H σ e A d e' Q st hf k
  obtain ⟨⟨dx, e1⟩, hf1, hf⟩ := Option.bind_eq_some_iff.mp hf
  obtain ⟨⟨r, l⟩, hf2, hf⟩ := Option.bind_eq_some_iff.mp hf
  cases hf
  obtain ⟨a0, vs0, ds0, h0, _, _, ha0, _⟩ := slot_list (Av := []) (Step.refl (A := A)) st.nd st hm
  refine ⟨.ref a0, h0, .inl ⟨rfl, _, .inl (.inl ha0)⟩, ?_⟩
  refine he st hf1 fun G1 H1 y Av B1 s1 st1 ov ndv => ?_
  obtain ⟨a, vs, ds, h2, h1, ga, ha, hz, q, wr⟩ := slot_list s1 ndv st1 hm1
  rw [h0] at h2
  cases h2
  cases dx with
  | int i =>
    cases ov with
    | s qy =>
      cases qy
      rw [show List.getD (PyData.int i, e1).2 j .none = .list ds from h1] at hf2
      obtain ⟨hr, hf2⟩ := ite_some2 hf2
      obtain ⟨n, hn, hf2⟩ := Option.bind_eq_some_iff.mp hf2
      obtain ⟨x, hx, hf2⟩ := Option.bind_eq_some_iff.mp hf2
      cases hf2
      obtain ⟨w, hw, qw⟩ := q.get hx
      have hl := len_erase vs n
      obtain ⟨A2, s3, st3⟩ := wr (vs.eraseIdx n) _ (q.erase n) (by omega)
      exact ⟨a0, vs, i, n, w, rfl, rfl, ha, hr.1, hr.2, by rw [q.1]; exact (ixN_seq hn).1, hw, k G1 _ w [] A2 s3 st3 (.s qw) st3.nd⟩
  | _ => 
    exfalso
    unfold gPopAt at hf2
    split at hf2
    · rename_i h; cases h
    · cases hf2
theorem DE.ext {ti : TE} {f : Ef} {j : Nat} (hm : m[j]? = some (.l .s)) (he : DE K m ti (.l .s) f m1) (hm1 : m1[j]? = some (.l .s)) : DE K m (tBM K "list" rExtend (tVar j) (tCons ti tNil)) .s (eExt j f) m1 := by
  intro G H σ e A d e' Q st hf k
  obtain ⟨⟨dx, e1⟩, hf1, hf⟩ := Option.bind_eq_some_iff.mp hf
  obtain ⟨l, hf2, hf⟩ := Option.bind_eq_some_iff.mp hf
  cases hf
  obtain ⟨a0, vs0, ds0, h0, _, _, ha0, _⟩ := slot_list (Av := []) (Step.refl (A := A)) st.nd st hm
  refine ⟨.ref a0, h0, .inl ⟨rfl, _, .inl (.inl ha0)⟩, ?_⟩
  refine he st hf1 fun G1 H1 y Av B1 s1 st1 ov ndv => ?_
  obtain ⟨a, vs, ds, h2, h1, ga, ha, hz, q, wr⟩ := slot_list s1 ndv st1 hm1
  rw [h0] at h2
  cases h2
  cases ov with
  | @l _ b ws es Bi gb hb hzb ob =>
    obtain ⟨rfl, qw⟩ := of_ownA ob
    rw [show List.getD (PyData.list es, e1).2 j .none = .list ds from h1] at hf2
    obtain ⟨hr, hf2⟩ := ite_some hf2
    cases hf2
    have l1 := q.1
    have l2 := qw.1
    obtain ⟨A2, s3, st3⟩ := wr (vs ++ ws) _ (q.append qw) (by rw [List.length_append]; omega)
    exact ⟨a0, b, vs, ws, rfl, rfl, ha, hb, by omega, k G1 _ .non [] A2 s3 st3 (.s .non) st3.nd⟩
end
section
variable {ι : Type} {Xf : ι → Cx} {P : Program} {w : World} {K : PySem.W.Frag} {mg : Str → Option Value} {base : Heap} {n : Nat} [F : Fam Xf P w K mg base n]
variable {m m1 : List Ty} {pos p p2 apos cpos xp : Pos} {a b v : Expr} {f : Ef} {fb : Bf}
include F in
/-- not e, e by its truth -/
theorem pd_notV (ha : PD Xf K m a .s f m1) : PD Xf K m (.UnaryOp .Not a pos) .s (eNotT (bOf f)) m1 := by
  obtain ⟨ta, pa, da⟩ := ha.ex
  refine ⟨fun σ H Q => ta σ H fun x H1 => ∃ k, TruV K x H1 k ∧ Q (.bl (!k)) H1, fun i => by have := pe_notT (pa i) (pos := pos); rw [F.kk i] at this; exact this, fun {G H σ e A d e' Q} st hf k => ?_⟩
  obtain ⟨⟨b1, e1⟩, hf1, hf⟩ := Option.bind_eq_some_iff.mp hf
  cases hf
  obtain ⟨⟨dx, e2⟩, hf2, hf3⟩ := Option.bind_eq_some_iff.mp (show (f e).bind (fun p => (gTruth p.1).bind fun b => some (b, p.2)) = some (b1, e1) from hf1)
  obtain ⟨c, hc, hf3⟩ := Option.bind_eq_some_iff.mp hf3
  cases hf3
  refine da st hf2 fun G1 H1 x A1 B1 s1 st1 o1 nd1 => ?_
  cases o1 with
  | s q1 => exact ⟨_, truV_of q1 st1.sub hc, k G1 H1 _ [] B1 s1 st1 (.s (.bl _)) st1.nd⟩
theorem pd_dic0 : PD Xf K m (.Dict [] [] pos) .s (eC (.dict [])) m := by
  refine ⟨tDNewK, fun i => pe_dnewK, fun {G H σ e A d e' Q} st hf k => ?_⟩
  cases hf
  intro p hp
  obtain ⟨s1, st1, sg⟩ := new_s (o := .dK []) st hp
  exact k _ _ _ [] A s1 st1 (.s (.dic (kvs := []) (.inl upd_same) (by decide))) st1.nd
theorem pd_dic1 {x : Str} {c : Int} {j1 j2 p1 p2} : PD Xf K m (.Dict [some (.Constant (.str x) j1 p1)] [.Constant (.int c) j2 p2] pos) .s (eC (.dict [(.str x, .int c)])) m := by
  refine ⟨_, fun i => pe_disp (pps_cons pe_str pe_int pps_nil) rfl rfl (by simp) (by simp), fun {G H σ e A d e' Q} st hf k => ?_⟩
  cases hf
  intro p hp
  refine ⟨upd_same, [(Sum.inr x, .int c)], rfl, by simp, ?_⟩
  obtain ⟨s1, st1, sg⟩ := new_s (o := .dK [(Sum.inr x, .int c)]) st hp
  have e : upd (upd H p (.dK [])) p (.dK (mergeK [] [((Sum.inr x : Key), V.int c)])) = upd H p (.dK [(Sum.inr x, .int c)]) := by
    funext b
    by_cases z : b = p
    · subst z; rw [upd_same, upd_same]; rfl
    · rw [upd_ne z, upd_ne z, upd_ne z]
  rw [e]
  exact k _ _ _ [] A s1 st1 (.s (.dic (kvs := [(x, c)]) (.inl upd_same) (by simp))) st1.nd
include F in
theorem pd_popG (j : Nat) {x : Str} (hv0 : PD Xf K m v .s f m1) (hm : m[j]? = some (.l .s) := by rfl) (hm1 : m1[j]? = some (.l .s) := by rfl) (hN : ∀ i, (Xf i).N[j]? = some x := by intro _; rfl)
    (hv : ∀ i, Vis (Xf i).env.scope x := by first | (intro _; exact Or.inl rfl) | (intro _; exact Or.inr (Or.inl rfl)) | (intro _; exact Or.inr (Or.inr rfl))) (hd : (x == ("__debug__" : Str)) = false := by decide) (hcd : (x == ("__classdict__" : Str)) = false := by decide)
    (hbase : ∀ i, attributeBase (.Name x xp) "pop" (Xf i).env (eval (.Name x xp) (Xf i).env) = eval (.Name x xp) (Xf i).env := by intro _; rfl)
    (hfew : ∀ i, ((backTo cpos (starEach [v] (Xf i).env)).all (fun x => !x.1) && (backToKw cpos (keywordEach [] (Xf i).env)).all (fun x => x.1.isSome)
      && decide ([v].length + ([] : List Keyword).length + (if ([] : List Keyword).isEmpty then 0 else 1) < 30)) = true := by intro _; rfl)
    (hline : (apos.endLine == cpos.line) = true := by rfl) (hs : ∀ i, starEach [v] (Xf i).env = (false, eval v (Xf i).env) :: starEach [] (Xf i).env := by intro _; rfl) (hplain : ∀ i, (backTo cpos (starEach [] (Xf i).env)).any (·.1) = false := by intro _; rfl) :
    PD Xf K m (.Call (.Attribute (.Name x xp) "pop" apos) [v] [] cpos) .s (ePopG j f) m1 := by
  obtain ⟨tv, pv, dv⟩ := hv0.ex
  exact ⟨_, fun i => by have := pe_bm PySem.F.plainAttrs_list PySem.F.slot_list_pop PySem.F.type_list_pop (mt_popAt (X := Xf i)) (pe_var (hN i) (hv i) hd hcd) (pa_cons (pv i) pa_nil (hs i)) (hbase i) (hfew i) hline (hs i) (hplain i); rw [F.kk i] at this; exact this, DE.popG hm dv hm1⟩
include F in
theorem pd_ext (j : Nat) {x : Str} (hv0 : PD Xf K m v (.l .s) f m1) (hm : m[j]? = some (.l .s) := by rfl) (hm1 : m1[j]? = some (.l .s) := by rfl) (hN : ∀ i, (Xf i).N[j]? = some x := by intro _; rfl)
    (hv : ∀ i, Vis (Xf i).env.scope x := by first | (intro _; exact Or.inl rfl) | (intro _; exact Or.inr (Or.inl rfl)) | (intro _; exact Or.inr (Or.inr rfl))) (hd : (x == ("__debug__" : Str)) = false := by decide) (hcd : (x == ("__classdict__" : Str)) = false := by decide)
    (hbase : ∀ i, attributeBase (.Name x xp) "extend" (Xf i).env (eval (.Name x xp) (Xf i).env) = eval (.Name x xp) (Xf i).env := by intro _; rfl)
    (hfew : ∀ i, ((backTo cpos (starEach [v] (Xf i).env)).all (fun x => !x.1) && (backToKw cpos (keywordEach [] (Xf i).env)).all (fun x => x.1.isSome)
      && decide ([v].length + ([] : List Keyword).length + (if ([] : List Keyword).isEmpty then 0 else 1) < 30)) = true := by intro _; rfl)
    (hline : (apos.endLine == cpos.line) = true := by rfl) (hs : ∀ i, starEach [v] (Xf i).env = (false, eval v (Xf i).env) :: starEach [] (Xf i).env := by intro _; rfl) (hplain : ∀ i, (backTo cpos (starEach [] (Xf i).env)).any (·.1) = false := by intro _; rfl) :
    PD Xf K m (.Call (.Attribute (.Name x xp) "extend" apos) [v] [] cpos) .s (eExt j f) m1 := by
  obtain ⟨tv, pv, dv⟩ := hv0.ex
  exact ⟨_, fun i => by have := pe_bm PySem.F.plainAttrs_list PySem.F.slot_list_extend PySem.F.type_list_extend (mt_extend (X := Xf i)) (pe_var (hN i) (hv i) hd hcd) (pa_cons (pv i) pa_nil (hs i)) (hbase i) (hfew i) hline (hs i) (hplain i); rw [F.kk i] at this; exact this, DE.ext hm dv hm1⟩

variable {M : Mk} {spos : Pos}
include F in
theorem ds_aug (j : Nat) {op : Operator} {x : Str} {pos' : Pos} {gg : PyData → PyData → Option PyData} {r : R2} (ho : ∀ i, OpR (Xf i) (inplaceOp op) r) (hr : D2 K r .s gg) (he : PD Xf K m v .s f m1) (hm : m[j]? = some .s := by rfl) (hm1 : m1[j]? = some .s := by rfl) (hp : j ∉ M.po := by decide)
    (hi : ∀ i, (Xf i).N[j]? = some x := by intro _; rfl) (hx : ∀ i, Loc (Xf i).env.scope x := by first | (intro _; exact Or.inl rfl) | (intro _; exact Or.inr rfl)) (hf : ∀ i, (Xf i).fn x = true ∨ (Xf i).env.scope.names.lookup x = some .local := by first | (intro _; exact Or.inl rfl) | (intro _; exact Or.inr rfl)) :
    PSd Xf K M m (.AugAssign (.Name x pos') op v spos) (sAug j gg f) (m1.set j .s) := by
  obtain ⟨te, pe, de⟩ := he.ex
  refine ⟨_, fun i => ps_aug (F.nd i) (hi i) (hx i) (pe i) (ho i) (hf i), fun {G H σ e A o e' D} st hf k => ?_⟩
  obtain ⟨⟨dy, e1⟩, hf1, hf⟩ := Option.bind_eq_some_iff.mp hf
  obtain ⟨dz, hf2, hf⟩ := Option.map_eq_some_iff.mp hf
  cases hf
  obtain ⟨d0, v0, h1, h2, h3⟩ := ownA_getS st.own hm
  refine ⟨v0, h2, ?_⟩
  refine de st hf1 fun G1 H1 y A1 B1 s1 st1 o1 nd1 => ?_
  obtain ⟨d1, v1, k1, k2, k3⟩ := ownA_getS st1.own hm1
  rw [h2] at k2
  cases k2
  cases o1 with
  | s q1 =>
    rw [List.getD_eq_getElem?_getD, k1] at hf2
    refine hr st1 k3 q1 hf2 fun G2 H2 z A2 B2 s2 st2 o2 nd2 => ?_
    obtain ⟨A3, st3, hA⟩ := stt_set st2 (List.getElem?_eq_some_iff.mp hm1).1 o2 nd2
    exact k G2 H2 _ A3 ((s1.seq0 s2).less hA) st3 (Pin.set hp)
def gAddI : PyData → PyData → Option PyData
  | .int i, .int j => some (.int (i + j))
  | _, _ => none
def gMulI : PyData → PyData → Option PyData
  | .int i, .int j => if mulOk i j = true then some (.int (i * j)) else none
  | _, _ => none
theorem d2_addI : D2 K (rI0 fun i j => .int (i + j)) .s gAddI := fun {m G H σ e A x y dx dy d Q} st hx hy ee k => by
  unfold gAddI at ee
  split at ee
  · cases ee
    obtain rfl := dq_int hx
    obtain rfl := dq_int hy
    exact ⟨_, _, rfl, rfl, ans_s st (.int _) k⟩
  · cases ee
include F in
theorem ds_augAdd (j : Nat) {x : Str} {pos' : Pos} (he : PD Xf K m v .s f m1) (hm : m[j]? = some .s := by rfl) (hm1 : m1[j]? = some .s := by rfl) (hp : j ∉ M.po := by decide)
    (hi : ∀ i, (Xf i).N[j]? = some x := by intro _; rfl) (hx : ∀ i, Loc (Xf i).env.scope x := by first | (intro _; exact Or.inl rfl) | (intro _; exact Or.inr rfl)) (hf : ∀ i, (Xf i).fn x = true ∨ (Xf i).env.scope.names.lookup x = some .local := by first | (intro _; exact Or.inl rfl) | (intro _; exact Or.inr rfl)) :
    PSd Xf K M m (.AugAssign (.Name x pos') .Add v spos) (sAug j gAddI f) (m1.set j .s) := ds_aug j (fun _ => iop_add) d2_addI he hm hm1 hp hi hx hf

variable {k : Nat} {x : Str} {rty : Ty} {Fn : DFn} [FG : FamG Xf]
include F FG in
/-- f() -/
theorem pd_call0 (c : CalG P w K mg base k x [] rty Fn) (hk : k ≤ n := by decide) (hg : ∀ i, Gl (Xf i) x := by intro _; rfl) (hdb : (x == ("__debug__" : Str)) = false := by decide) :
    PD Xf K m (.Call (.Name x p) [] [] pos) rty (eCall Fn lNil) m := by
  have main : ∀ i, PE (Xf i) (.Call (.Name x p) [] [] pos) (tCallG (spD K [] rty Fn) tNil) := by
    intro i
    obtain ⟨fa, fd, ps, FN, hm, kp, b⟩ := c.ex
    have e1 := F.prog i
    have e2 := F.w_ i
    have e3 := F.kk i
    have e4 := F.mg_ i
    have e5 := F.base_ i
    refine ⟨fun pins s σ H Q I h => wpAny_Call_Name_kw (ld_glob I (hg i) (by rw [e4]; exact hm) ?_ hdb)⟩
    refine PySem.W.callWith_K0 I.kIn (by rw [e3]; exact kp) ?_
    subst e1 e2 e3 e4 e5
    exact run_fnG (us := []) (vs := []) (E := fun _ _ _ => False) FN ((rmOf F FG i).mono hk) (FG.gd i) b I .nil h
  refine ⟨_, main, fun {G H σ e A d e' Q} st hf k' => ?_⟩
  obtain ⟨⟨d1, fs⟩, hf2, hf⟩ := Option.bind_eq_some_iff.mp (show (Fn []).bind (fun q => some (q.1, e)) = some (d, e') from hf)
  cases hf
  refine ⟨[], _, fs, G, [], hf2, .nil, List.nodup_nil, st.sub, fun G2 H2 v Av A2 s2 o2 ov nd2 sub2 => ?_⟩
  cases o2
  have s0 : Step A G H (A ++ []) G H := by rw [List.append_nil]; exact Step.refl
  obtain ⟨s3, nd3, hg', hh'⟩ := s0.seq (ownA_at st.own) (by rw [List.append_nil]; exact st.nd) s2 nd2
  have n3 := List.nodup_append.mp nd3
  have n4 := List.nodup_append.mp n3.2.1
  refine k' G2 H2 v Av A (s3.less fun a ha => ?_) ⟨ownA_fr st.own s2.sg hg' hh', st.nd, sub2⟩ ov ?_
  · rcases List.mem_append.mp ha with z | z
    · exact List.mem_append_right _ (List.mem_append_left _ z)
    · exact List.mem_append_left _ z
  · exact List.nodup_append.mpr ⟨n4.1, st.nd, fun a ha b hb z => n3.2.2 b hb a (List.mem_append_left _ ha) z.symm⟩
def gStr : PyData → Option PyData
  | .int i => if i.natAbs.log2 < 1920 ∧ (toString i : Str).length ≤ sizeLine then some (.str (toString i)) else none
  | .str z => some (.str z)
  | .bool b => some (.str (if b = true then "True" else "False"))
  | _ => none
theorem call_str_bool {X : Cx} : CallR X (.type "str") (fun xs H Q => ∃ b : Bool, xs = [.bl b] ∧ Q (.str (if b then "True" else "False")) H) := by
  intro pins s σ H vs us Q I r h
  obtain ⟨b, rfl, q⟩ := h
  obtain ⟨u, rfl, ru⟩ := vals1 r
  cases ru
  exact PySem.P.str_of_bool ⟨.str (if b then "True" else "False"), H, I.tok _, ⟨_, rfl⟩, q⟩
include F in
theorem clStr : Cl1 Xf K (.type "str") .s gStr := by
  refine ⟨_, fun i => CallR.or call_str_bool (CallR.or call_str_int SkE.call_str_str), fun {m G H σ e A x dx d Q} st hx ee k => ?_⟩
  cases dx with
  | int i =>
    obtain ⟨hz, rfl⟩ := ite_some ee
    obtain rfl := dq_int hx
    exact .inr (.inl ⟨i, rfl, hz.1, ans_s st (.str _ hz.2) k⟩)
  | str z =>
    cases ee
    obtain ⟨rfl, hz⟩ := dq_str hx
    exact .inr (.inr ⟨z, rfl, ans_s st (.str _ hz) k⟩)
  | bool b =>
    cases ee
    obtain rfl := dq_bool hx
    refine .inl ⟨b, rfl, ans_s st (.str _ ?_) k⟩
    cases b <;> decide
  | _ => cases ee
end
end DL

namespace DL
open PySem L2 PySem.Spec PyProof.Rows

/-! ### sets of ints that live for one expression: sorted(set(xs)), len(set(xs)) -/
abbrev newSetO (w : World) : Obj :=
  { cls := .type "set", dict := none,
    data := .set #[] 0 (.fresh 0 0 (!w.params.followText "set-order")) }
abbrev withSet (w : World) (s : Shared) : Shared := { s with heap := s.heap.push (newSetO w) }
section
variable {P : Program} {w : World} {A : Around} {E : Value → Shared → Prop} {s : Shared}
theorem set_of_list {l : Addr} {its : Array Value} (ns : List Int) {Q : Value → Shared → Prop} (h0 : A.handled = none) (hL : s.heap.IsList l its) (hI : IntsAre its.toList ns) (hz : ns.length + 1 < scanBound)
    (k : ∀ (h2 : Heap) (tk c : Nat), SetR w h2 s.heap.objs.size (fun j => decide (j ∈ ns)) c → c ≤ ns.length → (∀ b o, s.heap.get? b = some o → h2.get? b = some o) → Q (.ref s.heap.objs.size) { s with heap := h2, toks := tk }) :
    wpAny (model P w) A (call (.type "set") [.ref l]) Q E s := by
  have size_eq : its.size = ns.length := by have := IntsAre.length hI; rwa [Array.length_toList] at this
  obtain ⟨cc, ct, cmro⟩ := F.called_set.mro
  have c1 := F.called_set.made
  have c2 := F.called_set.sub
  refine wpAny_call ?_
  refine codeAny_of_tree ?_
  show wpAny _ _ (callAny (.type "set") _) _ _ _
  refine wpAny_pure ⟨Code.quiet_builtin _ (by decide +kernel), ?_⟩
  refine codeAny_builtin F.entry_type_call ?_
  rw [Around.under_plain (weight_type_call_type "set" [.ref l] []) rfl]
  have c3 := F.called_set.notType
  have c4 := F.called_set.canCreate
  have c5 := F.typeCall_set_1 (.ref l)
  repeat any_goals first | assumption | wp_step
  refine codeAny_mono (code_set_led1 (.ref l) (E := E) (Q₁ := fun v t => v = .ref s.heap.objs.size ∧ t = withSet w s) ⟨rfl, rfl⟩) fun r1 t1 hr => ?_
  cases r1 with
  | error e => exact hr
  | ok fl =>
    cases fl with
    | ret v =>
      obtain ⟨rfl, rfl⟩ := hr
      have here : (s.heap.push (newSetO w)).get? s.heap.objs.size = some (newSetO w) := Heap.get?_push_size _ rfl
      have ty : (withSet w s).TypeIs (.ref s.heap.objs.size) "set" := ⟨_, here, rfl⟩
      have i1 := F.called_set.init.lookup
      have i2 := F.called_set.init.bind (.ref s.heap.objs.size)
      repeat any_goals first | assumption | wp_step
      refine codeAny_mono (codeAny_call_builtin (R := wants (fun r t => r = .none ∧ ∃ h2 tk c, t = { s with heap := h2, toks := tk } ∧ SetR w h2 s.heap.objs.size (fun j => decide (j ∈ ns)) c ∧ c ≤ ns.length ∧
        ∀ b o, s.heap.get? b = some o → h2.get? b = some o) E) F.called_set.init.plain F.entry_set_init (check_set_init_1 ty ?_)) fun r2 t2 hr2 => ?_
      · obtain ⟨lo, lg, lc, ln, ld⟩ := hL
        obtain ⟨oc, od, oa, os⟩ := lo
        simp only at lc ld
        subst lc
        subst ld
        have lg2 : (s.heap.push (newSetO w)).get? l = some { cls := .type "list", dict := od, data := .seq its ln, slots := os } := Heap.get?_push_of_some _ lg
        have n1 := F.sub_list_set
        have n2 := F.sub_list_frozenset
        have n3 : (Value.type "list" == Value.type "dict") = false := by decide
        have lis : (s.heap.push (newSetO w)).IsList l its := ⟨_, lg2, rfl, ln, rfl⟩
        unfold Builtin.«set.__init__» noKeywords
        unfold Builtin.Frozenset.updateFrom
        generalize hit : pyIter = ITER
        wp_walk
        subst hit
        refine wpAny_pyIter_list lis (wpAny_bind (wpAny_runValue ?_))
        have below : l < s.heap.objs.size := Heap.lt_size lg
        have hh3 : A.in1.in1.in1.handled = none := by simp [h0]
        have pz : (s.heap.push (newSetO w)).objs.size = s.heap.objs.size + 1 := Heap.size_push ..
        have apart : l ≠ (s.heap.push (newSetO w)).objs.size := by rw [pz]; exact Nat.ne_of_lt (Nat.lt_succ_of_lt below)
        have out : s.heap.objs.size ∉ [(s.heap.push (newSetO w)).objs.size, l] := by
          rw [pz]
          intro hm
          rcases List.mem_cons.mp hm with z | z
          · exact absurd z (Nat.ne_of_lt (Nat.lt_succ_self _))
          · exact absurd (List.mem_singleton.mp z).symm (Nat.ne_of_lt below)
        have vals : ∀ (i : Nat) (v : Value), its[i]? = some v → ∃ k t, ns[i]? = some k ∧ v = .int k t := fun i v hv => by
          have hi : i < ns.length := by rw [← size_eq]; exact (Array.getElem?_eq_some_iff.mp hv).1
          obtain ⟨t, e⟩ := IntsAre.int_at hI i v (by rw [Array.getElem?_toList]; exact hv)
          exact ⟨ns[i], t, List.getElem?_eq_getElem hi, by rw [e, List.getD_eq_getElem?_getD, List.getElem?_eq_getElem hi]; rfl⟩
        refine set_update_ints ((Walks.list hh3 _ l apart its).toS) s.heap.objs.size out ns size_eq hz vals (its.size - 0) 0 _ (by omega) (Nat.zero_le _) ⟨⟨_, Heap.get?_push_size _ rfl, rfl, rfl⟩, lis.push _⟩ ⟨0, Nat.le_refl 0, setR_new_at (Heap.get?_push_of_some _ here)⟩ fun t c hm hc hS => ?_
        obtain ⟨h2, g2, d2, tk2, os2⟩ := t
        have eg : g2 = s.gens := hm.gens
        have ed : d2 = s.drawn := hm.drawn
        have eo : os2 = s.os := hm.os
        subst eg
        subst ed
        subst eo
        show wpAny _ _ _ _ _ _
        refine wpAny_pure ?_
        show wpAny _ _ (ret Value.none) _ _ _
        refine wpAny_pure ⟨rfl, h2, tk2, c, rfl, hS, by rw [← size_eq]; exact hc, fun b o e => ?_⟩
        have b1 : b < s.heap.objs.size := Heap.lt_size e
        refine hm.heap b o (fun z => ?_) (Heap.get?_push_of_some _ (Heap.get?_push_of_some _ e))
        rcases List.mem_cons.mp z with z | z
        · exact absurd z (Nat.ne_of_lt b1)
        · have z2 := List.mem_singleton.mp z
          rw [pz] at z2
          exact absurd z2 (Nat.ne_of_lt (Nat.lt_succ_of_lt b1))
      · cases r2 with
        | error e => exact hr2
        | ok fl2 =>
          cases fl2 with
          | ret v2 =>
            obtain ⟨rfl, h2, tk, c, rfl, hS, hc, hk⟩ := hr2
            repeat any_goals first | assumption | wp_step
            exact k _ _ _ hS hc hk
          | _ => exact hr2.elim
    | _ => exact hr.elim
/-- sorted(p) of a set of ints of any number -/
theorem sorted_of_set {p : Addr} {S : Int → Bool} {n : Nat} {Q : Value → Shared → Prop} (R : SetR w s.heap p S n) (h0 : A.handled = none)
    (k : ∀ t q (out : List Value) (c : Nat) (ns : List Int), (∀ b o, s.heap.get? b = some o → t.heap.get? b = some o) → t.gens = s.gens → t.os = s.os → s.heap.objs.size ≤ q →
      t.heap.get? q = some (seqObj "list" out.toArray c) → IntsAre out ns → ns.Pairwise (· < ·) → (∀ j, j ∈ ns ↔ S j = true) → ns.length = n → Q (.ref q) t) :
    wpAny (model P w) A (call (.builtin "sorted") [.ref p]) Q E s := by
  obtain ⟨o, es, ep, t, ho, hex, hd, good, nd, hm, hb, hf, hn, hr, hl⟩ := R
  refine Calls.call_function_entry kind_sorted plain_sorted entry_sorted (args_sorted1 _) ?_
  unfold Builtin.«sorted»
  refine wpAny_bind (m := checkCount "sorted" 1 1 _) ?_
  refine wpAny_pure ?_
  refine wpAny_bind (collect_set (A := A.in1) h0 ⟨o, ho, hex.1, hd⟩ hf hb hr hl fun s1 vs old zz g1 o1 pm => ?_)
  have lv : vs.length = n := by rw [pm.length_eq, List.length_map, Array.length_toList]; exact hn
  have shape : ∀ v ∈ vs, ∃ i t, v = Value.int i t := fun v hv => by
    obtain ⟨e, he, q⟩ := List.mem_map.mp (pm.mem_iff.mp hv)
    obtain ⟨i, tk, h1, _⟩ := good e he
    exact ⟨i, tk, by rw [← q]; exact h1⟩
  have hI := SrtO.ints_iv shape
  have pk : (vs.map SrtO.iv).Perm (es.toList.map keyOf) := by
    have q := pm.map SrtO.iv
    rw [List.map_map] at q
    refine q.trans (List.Perm.of_eq (List.map_congr_left fun e he => ?_))
    obtain ⟨i, tk, h1, _⟩ := good e he
    show SrtO.iv e.2 = keyOf e
    unfold keyOf
    rw [h1]; rfl
  have small : vs.length ≤ sizeLine := by rw [lv, ← hn]; exact fits_of_scanBound hb
  refine wpAny_bind (wpAny_newList ?_ small)
  have at1 : (s1.heap.push (seqObj "list" vs.toArray 0)).get? s1.heap.objs.size = some (seqObj "list" vs.toArray 0) := Heap.get?_push_size _ rfl
  refine wpAny_bind (wpAny_holding ?_)
  refine wpAny_call_entry slot_list_sort ⟨_, at1, rfl⟩ entry_list_sort (SrtO.list_sort_ord SrtO.swo_int at1 small (fun h2 => SrtO.ints_sortable hI h2) fun out a1 a2 => ⟨.none, rfl, ?_⟩) (args_list_sort _)
  obtain ⟨k1, k2, k3⟩ := SrtO.ints_out hI a1 a2
  obtain ⟨c, hc⟩ := sortedHeap_at (vs := vs) (out := out.toArray) at1
  have pn := k2.trans pk
  refine wpAny_pure ⟨_, rfl, k _ s1.heap.objs.size out c _ (fun b u e => ?_) g1 o1 zz hc k1 (lt_of_le_nodup _ k3 (pn.nodup_iff.mpr nd)) (fun j => by rw [pn.mem_iff, ← hm j]) (by rw [pn.length_eq, List.length_map, Array.length_toList]; exact hn)⟩
  have q := old b u e
  have lt := Heap.lt_size q
  show (sortedHeap (s1.heap.push (seqObj "list" vs.toArray 0)) s1.heap.objs.size vs out.toArray).get? b = some u
  rw [sortedHeap_old (Nat.ne_of_lt lt) (by rw [Heap.size_push]; exact Nat.lt_succ_of_lt lt)]
  exact Heap.get?_push_of_some _ q
end
theorem bt_set : bootBuiltins "set" = some (.type "set") := by decide +kernel
/-! the set as a kept object of one expression -/
def SetI (w : World) (q : Addr) (ns : List Int) : HO := .ext fun h => ∃ c, SetR w h q (fun j => decide (j ∈ ns)) c
def rSetOf (K : PySem.W.Frag) (w : World) : List V → Hp → VK → Prop := fun xs H Q => ∃ (p : Addr) (ns : List Int), xs = [.ref p] ∧ (SqL K H p (ns.map V.int) ∨ SqT K H p (ns.map V.int)) ∧ ns.length + 1 < scanBound ∧
  ∀ q, H q = none → Q (.ref q) (upd H q (SetI w q ns))
def rSortSet (w : World) : List V → Hp → VK → Prop := fun xs H Q => ∃ (q : Addr) (ns : List Int), xs = [.ref q] ∧ H q = some (SetI w q ns) ∧
  ∀ (ms : List Int) (p : Addr), ms.Pairwise (· < ·) → (∀ j, j ∈ ms ↔ j ∈ ns) → H p = none → Q (.ref p) (upd H p (.lst (ms.map V.int)))
def rLenSet (w : World) : List V → Hp → VK → Prop := fun xs H Q => ∃ (q : Addr) (ns : List Int), xs = [.ref q] ∧ H q = some (SetI w q ns) ∧
  ∀ (ms : List Int), ms.Nodup → (∀ j, j ∈ ms ↔ j ∈ ns) → Q (.int (ms.length : Nat)) H
theorem setI_new {P : Program} {w : World} {H : Hp} {h : Heap} {q : Addr} {ns : List Int} {c : Nat} (R : SetR w h q (fun j => decide (j ∈ ns)) c) : ObjOk P w H h q (SetI w q ns) := by
  obtain ⟨o, _, _, _, ho, _⟩ := id R
  exact ⟨⟨c, R⟩, ⟨o, ho⟩, fun h1 h2 ⟨c', R'⟩ k => ⟨c', R'.at k⟩⟩
section
variable {X : Cx}
theorem setI_get {pins : List (Addr × Obj)} {σ : L2.St} {H : Hp} {s : Shared} {q : Addr} {ns : List Int} (I : Inv X pins σ H s) (h : H q = some (SetI X.w q ns)) : ∃ c, SetR X.w s.heap q (fun j => decide (j ∈ ns)) c := (I.hok q _ h).1
theorem call_setOf (hc : X.calm = true) : CallR X (.type "set") (rSetOf X.K X.w) := by
  intro pins s σ H xs us Q I r h
  obtain ⟨p, ns, rfl, hs, hz, k⟩ := h
  rw [Vals.ref1 r]
  have fin : ∀ (h2 : Heap) (tk c : Nat), SetR X.w h2 s.heap.objs.size (fun j => decide (j ∈ ns)) c → (∀ b o, s.heap.get? b = some o → h2.get? b = some o) → ∃ x H', Inv X pins σ H' { s with heap := h2, toks := tk } ∧ RelV x (.ref s.heap.objs.size) ∧ Q x H' := fun h2 tk c R old =>
    ⟨.ref _, upd H s.heap.objs.size (SetI X.w s.heap.objs.size ns), I.laid (t' := tk) old (Nat.le_refl _) (setI_new R), rfl, k _ (I.hok.fresh (Nat.le_refl _))⟩
  rcases hs with hs | hs
  · obtain ⟨its, rv, hL, _⟩ := I.list hs
    exact set_of_list ns (I.ok.hd hc) hL.isList rv.ints hz fun h2 tk c R _ old => fin h2 tk c R old
  · obtain ⟨its, rv, hL, _⟩ := I.tuple hs
    exact call_set_tupI ns (I.ok.hd hc) hL rv.ints hz fun h2 tk c R _ old => fin h2 tk c R old
theorem call_sortSet (hc : X.calm = true) : CallR X (.builtin "sorted") (rSortSet X.w) := by
  intro pins s σ H xs us Q I r h
  obtain ⟨q, ns, rfl, hq, k⟩ := h
  rw [Vals.ref1 r]
  obtain ⟨c, R⟩ := setI_get I hq
  refine sorted_of_set R (I.ok.hd hc) fun t p out n ms old e1 e2 hp ho hi pw mem len => ?_
  have room : (ms.map V.int).length ≤ sizeLine := by
    rw [List.length_map, len]
    obtain ⟨_, es, _, _, _, _, _, _, _, _, b, _, e, _⟩ := R
    rw [← e]; exact fits_of_scanBound b
  have free : H p = none := I.hok.fresh hp
  have J : Inv X pins σ (upd H p (.lst (ms.map V.int))) { s with heap := t.heap, gens := t.gens, drawn := t.drawn, toks := t.toks } :=
    I.call (ch := []) (Un.laid old hp free) (I.hok.laid old hp ⟨room, out, n, vals_of_ints hi, ho⟩) (by rw [e1]; exact I.bare) fun _ z => by cases z
  obtain ⟨th, tg, td, tt, to⟩ := t
  cases e2
  exact ⟨.ref p, _, J, rfl, k ms p pw (fun j => by rw [mem j]; simp) free⟩
theorem call_lenSet : CallR X (.builtin "len") (rLenSet X.w) := by
  intro pins s σ H xs us Q I r h
  obtain ⟨q, ns, rfl, hq, k⟩ := h
  rw [Vals.ref1 r]
  obtain ⟨c, o, es, ep, t, ho, hex, hd, good, nd, hm, hb, hf, hn, hr, hl⟩ := setI_get I hq
  have lim : es.size < 4096 := hb
  refine call_len_set ho hex hd hf (by omega) ?_
  have := k (es.toList.map keyOf) nd fun j => by rw [← hm j]; simp
  rw [List.length_map, Array.length_toList] at this
  exact ⟨.int es.size, H, I.tok _, ⟨_, rfl⟩, this⟩
end
/-! the data's side -/
def insU (x : Int) : List Int → List Int
  | [] => [x]
  | y :: ys => if x < y then x :: y :: ys else if x = y then y :: ys else y :: insU x ys
def sortSet : List Int → List Int
  | [] => []
  | x :: xs => insU x (sortSet xs)
theorem insU_mem {x j : Int} : ∀ {l : List Int}, j ∈ insU x l ↔ j = x ∨ j ∈ l
  | [] => by simp [insU]
  | y :: ys => by
    unfold insU
    split
    · simp
    · split
      · rename_i h; subst h; simp
      · rw [List.mem_cons, insU_mem, List.mem_cons]
        constructor
        · rintro (h | h | h) <;> simp [h]
        · rintro (h | h | h) <;> simp [h]
theorem insU_lt {x : Int} : ∀ {l : List Int}, l.Pairwise (· < ·) → (insU x l).Pairwise (· < ·)
  | [], _ => by simp [insU]
  | y :: ys, h => by
    obtain ⟨h1, h2⟩ := List.pairwise_cons.mp h
    unfold insU
    split
    · rename_i hx
      exact List.pairwise_cons.mpr ⟨fun z hz => by
        rcases List.mem_cons.mp hz with e | hz
        · rw [e]; exact hx
        · exact Int.lt_trans hx (h1 z hz), h⟩
    · split
      · exact h
      · rename_i a b
        refine List.pairwise_cons.mpr ⟨fun z hz => ?_, insU_lt h2⟩
        rcases insU_mem.mp hz with e | hz
        · rw [e]; omega
        · exact h1 z hz
theorem sortSet_lt : ∀ l : List Int, (sortSet l).Pairwise (· < ·)
  | [] => List.Pairwise.nil
  | x :: xs => insU_lt (sortSet_lt xs)
theorem sortSet_mem {j : Int} : ∀ {l : List Int}, j ∈ sortSet l ↔ j ∈ l
  | [] => Iff.rfl
  | x :: xs => by rw [sortSet, insU_mem, sortSet_mem, List.mem_cons]
/-- rising rows with the same members are one row -/
theorem rising_one : ∀ {l m : List Int}, l.Pairwise (· < ·) → m.Pairwise (· < ·) → (∀ j, j ∈ l ↔ j ∈ m) → l = m
  | [], [], _, _, _ => rfl
  | [], y :: m, _, _, h => absurd ((h y).mpr (List.mem_cons_self ..)) (by simp)
  | x :: l, [], _, _, h => absurd ((h x).mp (List.mem_cons_self ..)) (by simp)
  | x :: l, y :: m, hl, hm, h => by
    obtain ⟨a1, a2⟩ := List.pairwise_cons.mp hl
    obtain ⟨b1, b2⟩ := List.pairwise_cons.mp hm
    have e : x = y := by
      rcases List.mem_cons.mp ((h x).mp (List.mem_cons_self ..)) with e | hx
      · exact e
      · rcases List.mem_cons.mp ((h y).mpr (List.mem_cons_self ..)) with e | hy
        · exact e.symm
        · have := a1 y hy; have := b1 x hx; omega
    subst e
    refine congrArg (x :: ·) (rising_one a2 b2 fun j => ⟨fun hj => ?_, fun hj => ?_⟩)
    · rcases List.mem_cons.mp ((h j).mp (List.mem_cons_of_mem _ hj)) with e | q
      · have := a1 j hj; omega
      · exact q
    · rcases List.mem_cons.mp ((h j).mpr (List.mem_cons_of_mem _ hj)) with e | q
      · have := b1 j hj; omega
      · exact q
theorem nodup_len {l m : List Int} (hl : l.Nodup) (hm : m.Nodup) (h : ∀ j, j ∈ l ↔ j ∈ m) : l.length = m.length :=
  ((List.perm_ext_iff_of_nodup hl hm).mpr h).length_eq
theorem lt_nodup {l : List Int} (h : l.Pairwise (· < ·)) : l.Nodup := h.imp fun {a b} q => by omega
def gSetOf : PyData → Option (List Int)
  | .list xs => (intsOf xs).bind fun ns => if ns.length < 4000 then some ns else none
  | .tuple xs => (intsOf xs).bind fun ns => if ns.length < 4000 then some ns else none
  | _ => none
def gSortSet (d : PyData) : Option PyData := (gSetOf d).map fun ns => .list ((sortSet ns).map .int)
def gLenSet (d : PyData) : Option PyData := (gSetOf d).map fun ns => .int ((sortSet ns).length : Nat)
section
variable {ι : Type} {Xf : ι → Cx} {P : Program} {w : World} {K : PySem.W.Frag} {mg : Str → Option Value} {base : Heap} {n : Nat} [F : Fam Xf P w K mg base n]
omit F in
theorem dqA_int {G : Hp} : ∀ ns : List Int, DqA K G (ns.map V.int) (ns.map PyData.int)
  | [] => DqA.nil
  | i :: ns => DqA.cons (.int i) (dqA_int ns)
omit F in
theorem setOf_in {G H : Hp} {x : V} {dx : PyData} {ns : List Int} (sub : Same G H) (h : Dq K G x dx) (e : gSetOf dx = some ns) : ∃ p, x = .ref p ∧ (SqL K H p (ns.map V.int) ∨ SqT K H p (ns.map V.int)) ∧ ns.length + 1 < scanBound := by
  have lim : ∀ {xs : List PyData}, ((intsOf xs).bind fun ns => if ns.length < 4000 then some ns else none) = some ns → intsOf xs = some ns ∧ ns.length < 4000 := fun q => by
    obtain ⟨ms, h1, h2⟩ := Option.bind_eq_some_iff.mp q
    obtain ⟨h3, rfl⟩ := ite_some h2
    exact ⟨h1, h3⟩
  cases dx with
  | list ds =>
    obtain ⟨h1, h2⟩ := lim e
    obtain ⟨a, xs, rfl, r1, _, q1⟩ := dq_lst h
    rw [ints_eq h1] at q1
    obtain rfl := dqA_ints q1
    exact ⟨a, rfl, .inl (.inl (same_rd sub r1)), by show _ < 4096; omega⟩
  | tuple ds =>
    obtain ⟨h1, h2⟩ := lim e
    obtain ⟨a, xs, rfl, r1, _, q1⟩ := dq_tup h
    rw [ints_eq h1] at q1
    obtain rfl := dqA_ints q1
    exact ⟨a, rfl, .inr (same_seqT sub r1), by show _ < 4096; omega⟩
  | _ => cases e
variable {m m1 : List Ty} {pos p pos2 p2 : Pos} {a : Expr} {f : Ef} {x y : Str}
include F
/-- sorted(set(a)) -/
theorem pd_sortSet [FG : FamG Xf] (hs : mg "sorted" = none) (vs : bootBuiltins "sorted" = some (.builtin "sorted")) (ht : mg "set" = none) (vt : bootBuiltins "set" = some (.type "set")) (ha : PD Xf K m a .s f m1) (gs : ∀ i, Gl (Xf i) "sorted" := by intro _; rfl) (gt : ∀ i, Gl (Xf i) "set" := by intro _; rfl)
    (he : ∀ i, starEach [a] (Xf i).env = (false, eval a (Xf i).env) :: starEach [] (Xf i).env := by intro _; rfl) (hpl : ∀ i, (backTo pos2 (starEach [] (Xf i).env)).any (·.1) = false := by intro _; rfl)
    (he2 : ∀ i, starEach [.Call (.Name "set" p2) [a] [] pos2] (Xf i).env = (false, eval (.Call (.Name "set" p2) [a] [] pos2) (Xf i).env) :: starEach [] (Xf i).env := by intro _; rfl) (hpl2 : ∀ i, (backTo pos (starEach [] (Xf i).env)).any (·.1) = false := by intro _; rfl) :
    PD Xf K m (.Call (.Name "sorted" p) [.Call (.Name "set" p2) [a] [] pos2] [] pos) (.l .s) (e1 gSortSet f) m1 := by
  obtain ⟨ta, pa, da⟩ := ha.ex
  have c1 : ∀ i, CallR (Xf i) (.type "set") (rSetOf K w) := fun i => by have := call_setOf (FG.calm i); rwa [F.kk i, F.w_ i] at this
  have c2 : ∀ i, CallR (Xf i) (.builtin "sorted") (rSortSet w) := fun i => by have := call_sortSet (FG.calm i); rwa [F.w_ i] at this
  refine ⟨_, fun i => pe_callB (c2 i) (gs i) (by rw [F.mg_ i]; exact hs) vs (pa_cons (pe_callTy (c1 i) (gt i) (by rw [F.mg_ i]; exact ht) vt (pa_cons (pa i) pa_nil (he i)) (by decide) (by decide) (he i) (hpl i)) pa_nil (he2 i)) (by decide) (by decide) (he2 i) (hpl2 i),
    DE.un (r := fun x H Q => rSetOf K w [x] H fun y H1 => rSortSet w [y] H1 Q) da ?_⟩
  intro m G H σ e A x dx d Q st hx ee k
  obtain ⟨ns, hn, rfl⟩ := Option.map_eq_some_iff.mp ee
  obtain ⟨p, rfl, hp, hz⟩ := setOf_in st.sub hx hn
  refine ⟨p, ns, rfl, hp, hz, fun q hq => ?_⟩
  obtain ⟨s1, st1, sg⟩ := new_s (o := SetI w q ns) st hq
  refine ⟨q, ns, rfl, upd_same, fun ms p2 hlt hmem hp2 => ?_⟩
  obtain rfl := rising_one hlt (sortSet_lt ns) fun j => (hmem j).trans sortSet_mem.symm
  have small : ((sortSet ns).map V.int).length ≤ sizeLine := by
    rw [List.length_map]
    have h1 : (sortSet ns).length ≤ ns.length := by
      have : ∀ l : List Int, (sortSet l).length ≤ l.length := fun l => by
        induction l with
        | nil => exact Nat.le_refl _
        | cons a l ih =>
          have : ∀ (x : Int) (l : List Int), (insU x l).length ≤ l.length + 1 := fun x l => by
            induction l with
            | nil => exact Nat.le_refl _
            | cons y l ih =>
              unfold insU
              split
              · exact Nat.le_refl _
              · split
                · exact Nat.le_succ _
                · simp only [List.length_cons]; omega
          have := this a (sortSet l)
          rw [sortSet, List.length_cons]; omega
      exact this ns
    have h2 : ns.length + 1 < 4096 := hz
    rw [sizeLine_eq]; omega
  exact ans_lst st1 (dqA_int _) small (fun G2 H2 v Av A2 s2 => k G2 H2 v Av A2 (s1.seq0 s2)) p2 hp2
/-- len(set(a)) -/
theorem pd_lenSet [FG : FamG Xf] (hs : mg "len" = none) (vs : bootBuiltins "len" = some (.builtin "len")) (ht : mg "set" = none) (vt : bootBuiltins "set" = some (.type "set")) (ha : PD Xf K m a .s f m1) (gs : ∀ i, Gl (Xf i) "len" := by intro _; rfl) (gt : ∀ i, Gl (Xf i) "set" := by intro _; rfl)
    (he : ∀ i, starEach [a] (Xf i).env = (false, eval a (Xf i).env) :: starEach [] (Xf i).env := by intro _; rfl) (hpl : ∀ i, (backTo pos2 (starEach [] (Xf i).env)).any (·.1) = false := by intro _; rfl)
    (he2 : ∀ i, starEach [.Call (.Name "set" p2) [a] [] pos2] (Xf i).env = (false, eval (.Call (.Name "set" p2) [a] [] pos2) (Xf i).env) :: starEach [] (Xf i).env := by intro _; rfl) (hpl2 : ∀ i, (backTo pos (starEach [] (Xf i).env)).any (·.1) = false := by intro _; rfl) :
    PD Xf K m (.Call (.Name "len" p) [.Call (.Name "set" p2) [a] [] pos2] [] pos) .s (e1 gLenSet f) m1 := by
  obtain ⟨ta, pa, da⟩ := ha.ex
  have c1 : ∀ i, CallR (Xf i) (.type "set") (rSetOf K w) := fun i => by have := call_setOf (FG.calm i); rwa [F.kk i, F.w_ i] at this
  have c2 : ∀ i, CallR (Xf i) (.builtin "len") (rLenSet w) := fun i => by have := call_lenSet (X := Xf i); rwa [F.w_ i] at this
  refine ⟨_, fun i => pe_callB (c2 i) (gs i) (by rw [F.mg_ i]; exact hs) vs (pa_cons (pe_callTy (c1 i) (gt i) (by rw [F.mg_ i]; exact ht) vt (pa_cons (pa i) pa_nil (he i)) (by decide) (by decide) (he i) (hpl i)) pa_nil (he2 i)) (by decide) (by decide) (he2 i) (hpl2 i),
    DE.un (r := fun x H Q => rSetOf K w [x] H fun y H1 => rLenSet w [y] H1 Q) da ?_⟩
  intro m G H σ e A x dx d Q st hx ee k
  obtain ⟨ns, hn, rfl⟩ := Option.map_eq_some_iff.mp ee
  obtain ⟨p, rfl, hp, hz⟩ := setOf_in st.sub hx hn
  refine ⟨p, ns, rfl, hp, hz, fun q hq => ?_⟩
  obtain ⟨s1, st1, sg⟩ := new_s (o := SetI w q ns) st hq
  refine ⟨q, ns, rfl, upd_same, fun ms nd hmem => ?_⟩
  rw [nodup_len nd (lt_nodup (sortSet_lt ns)) fun j => (hmem j).trans sortSet_mem.symm]
  exact ans_s st1 (.int _) fun G2 H2 v Av A2 s2 => k G2 H2 v Av A2 (s1.seq0 s2)
end
end DL

namespace DL
open PySem L2 PySem.Spec

/-! ### dicts with int keys, owned by a slot -/
def isK (i : Int) : PyData → Bool
  | .int j => decide (j = i)
  | _ => false
def lookD (kvs : List (PyData × PyData)) (i : Int) : Option PyData := (kvs.find? fun p => isK i p.1).map (·.2)
def putD (kvs : List (PyData × PyData)) (i : Int) (x : PyData) : List (PyData × PyData) :=
  if (kvs.any fun p => isK i p.1) = true then kvs.map (fun p => if isK i p.1 = true then (p.1, x) else p) else kvs ++ [(.int i, x)]
def gDGet (d k : PyData) : Option PyData := match d, k with
  | .dict kvs, .int i => lookD kvs i
  | _, _ => none
def gDGet2 (d k z : PyData) : Option PyData := match d, k with
  | .dict kvs, .int i => some ((lookD kvs i).getD z)
  | _, _ => none
def gDIn (d k : PyData) : Option PyData := match d, k with
  | .dict kvs, .int i => some (.bool (lookD kvs i).isSome)
  | _, _ => none
def gDNotIn (d k : PyData) : Option PyData := match d, k with
  | .dict kvs, .int i => some (.bool (!(lookD kvs i).isSome))
  | _, _ => none
def gDPut (d k x : PyData) : Option PyData := match d, k with
  | .dict kvs, .int i => if kvs.length < sizeLine then some (.dict (putD kvs i x)) else none
  | _, _ => none
def kvD (p : Int × PyData) : PyData × PyData := (.int p.1, p.2)
def kvV (p : Int × V) : Key × V := (Sum.inl p.1, p.2)
def valI (ds : List (Int × PyData)) (i : Int) : Option PyData := (ds.find? fun p => decide (p.1 = i)).map (·.2)
def putI {α : Type} (ds : List (Int × α)) (i : Int) (x : α) : List (Int × α) :=
  if (ds.any fun p => decide (p.1 = i)) = true then ds.map (fun p => if p.1 = i then (p.1, x) else p) else ds ++ [(i, x)]
theorem look_map (i : Int) : ∀ ds : List (Int × PyData), lookD (ds.map kvD) i = valI ds i
  | [] => rfl
  | p :: ds => by
    have ih := look_map i ds
    unfold lookD valI at ih ⊢
    rw [List.map_cons, List.find?_cons, List.find?_cons]
    show (match decide (p.1 = i) with | true => _ | false => _ : Option _).map _ = _
    by_cases h : p.1 = i
    · simp only [h, decide_true]; rfl
    · simp only [h, decide_false]; exact ih
theorem putD_map (i : Int) (x : PyData) (ds : List (Int × PyData)) : putD (ds.map kvD) i x = (putI ds i x).map kvD := by
  unfold putD putI
  have e : ((ds.map kvD).any fun p => isK i p.1) = ds.any fun p => decide (p.1 = i) := by
    rw [List.any_map]; rfl
  rw [e]
  split
  · rw [List.map_map, List.map_map]
    refine List.map_congr_left fun p _ => ?_
    show (if decide (p.1 = i) = true then (PyData.int p.1, x) else kvD p) = kvD (if p.1 = i then (p.1, x) else p)
    by_cases h : p.1 = i
    · rw [if_pos (decide_eq_true h), if_pos h]; rfl
    · rw [if_neg (by simpa using h), if_neg h]
  · rw [List.map_append]; rfl
theorem putK_map (i : Int) (v : V) (kvs : List (Int × V)) : putK (kvs.map kvV) (Sum.inl i) v = (putI kvs i v).map kvV := by
  unfold putK putI
  have e : ((kvs.map kvV).any fun kv => decide (kv.1 = (Sum.inl i : Key))) = kvs.any fun p => decide (p.1 = i) := by
    rw [List.any_map]
    congr 1; funext p
    show decide ((Sum.inl p.1 : Key) = Sum.inl i) = decide (p.1 = i)
    exact decide_eq_decide.mpr ⟨fun h => Sum.inl.inj h, fun h => by rw [h]⟩
  rw [e]
  split
  · rw [List.map_map, List.map_map]
    refine List.map_congr_left fun p _ => ?_
    show (if (Sum.inl p.1 : Key) = Sum.inl i then ((Sum.inl p.1 : Key), v) else kvV p) = kvV (if p.1 = i then (p.1, v) else p)
    by_cases h : p.1 = i
    · rw [if_pos (by rw [h]), if_pos h]; rfl
    · rw [if_neg fun z => h (Sum.inl.inj z), if_neg h]
  · rw [List.map_append]; rfl
theorem putI_keys {α β : Type} {ds : List (Int × α)} {es : List (Int × β)} (h : ds.map (·.1) = es.map (·.1)) (i : Int) (x : α) (y : β) : (putI ds i x).map (·.1) = (putI es i y).map (·.1) := by
  have e : ∀ {γ : Type} (l : List (Int × γ)), (l.any fun p => decide (p.1 = i)) = (l.map (·.1)).any fun k => decide (k = i) := fun l => by rw [List.any_map]; rfl
  have e2 : ∀ {γ : Type} (l : List (Int × γ)) (z : γ), (l.map (fun p => if p.1 = i then (p.1, z) else p)).map (·.1) = l.map (·.1) := fun l z => by
    rw [List.map_map]
    refine List.map_congr_left fun p _ => ?_
    show (if p.1 = i then (p.1, z) else p).1 = p.1
    split <;> rfl
  unfold putI
  rw [e, e, h]
  split
  · rw [e2, e2, h]
  · rw [List.map_append, List.map_append, h]; rfl
theorem putI_len {α : Type} (ds : List (Int × α)) (i : Int) (x : α) : (putI ds i x).length ≤ ds.length + 1 := by
  unfold putI
  split
  · rw [List.length_map]; omega
  · rw [List.length_append]; exact Nat.le_refl _
section
variable {K : PySem.W.Frag} {G H G1 H1 : Hp} {m m1 m2 mn : List Ty} {σ : St} {e : En} {A A1 : List Addr} {t : Ty} {ts : List Ty}
theorem val_rel (i : Int) : ∀ {kvs : List (Int × V)} {ds : List (Int × PyData)}, kvs.map (·.1) = ds.map (·.1) → DqA K G (kvs.map (·.2)) (ds.map (·.2)) →
    (valV (kvs.map kvV) (Sum.inl i) = none ∧ valI ds i = none) ∨ ∃ v d, valV (kvs.map kvV) (Sum.inl i) = some v ∧ valI ds i = some d ∧ Dq K G v d
  | [], [], _, _ => .inl ⟨rfl, rfl⟩
  | [], _ :: _, h, _ => by simp at h
  | _ :: _, [], h, _ => by simp at h
  | p :: kvs, q :: ds, h, r => by
    simp only [List.map_cons, List.cons.injEq] at h
    rw [List.map_cons, List.map_cons] at r
    by_cases e : q.1 = i
    · refine .inr ⟨p.2, q.2, valV_pos (p := kvV p) (by show (Sum.inl p.1 : Key) = _; rw [h.1, e]), ?_, r.head⟩
      unfold valI
      rw [List.find?_cons_of_pos (by simpa using e)]; rfl
    · have e1 : valV ((p :: kvs).map kvV) (Sum.inl i) = valV (kvs.map kvV) (Sum.inl i) := valV_neg (p := kvV p) fun z => e (by rw [← h.1]; exact Sum.inl.inj z)
      have e2 : valI (q :: ds) i = valI ds i := by
        unfold valI
        rw [List.find?_cons_of_neg (by simpa using e)]
      rw [e1, e2]
      exact val_rel i h.2 r.tail
theorem put_rel (i : Int) {v : V} {d : PyData} (hv : Dq K G v d) {kvs : List (Int × V)} {ds : List (Int × PyData)} (h : kvs.map (·.1) = ds.map (·.1)) (r : DqA K G (kvs.map (·.2)) (ds.map (·.2))) : DqA K G ((putI kvs i v).map (·.2)) ((putI ds i d).map (·.2)) := by
  have e : ∀ {γ : Type} (l : List (Int × γ)), (l.any fun p => decide (p.1 = i)) = (l.map (·.1)).any fun k => decide (k = i) := fun l => by rw [List.any_map]; rfl
  unfold putI
  rw [e, e, h]
  split
  · clear e
    rename_i z
    clear z
    induction kvs generalizing ds with
    | nil =>
      cases ds with
      | nil => exact DqA.nil
      | cons _ _ => simp at h
    | cons p kvs ih =>
      cases ds with
      | nil => simp at h
      | cons q ds =>
        simp only [List.map_cons, List.cons.injEq] at h
        rw [List.map_cons, List.map_cons] at r
        rw [List.map_cons, List.map_cons, List.map_cons, List.map_cons]
        refine DqA.cons ?_ (ih h.2 r.tail)
        rw [h.1]
        by_cases z : q.1 = i
        · rw [if_pos z, if_pos z]; exact hv
        · rw [if_neg z, if_neg z]; exact r.head
  · rw [List.map_append, List.map_append]
    exact r.append (DqA.cons hv DqA.nil)
/-- the dict in slot j, ready to be rewritten -/
theorem slot_dict {j : Nat} {Av : List Addr} {e1 : En} (s1 : Step A G H (Av ++ A1) G1 H1) (nd : (Av ++ A1).Nodup) (st : Stt K m G1 H1 σ e1 A1) (hm : m[j]? = some .d) :
    ∃ (a : Addr) (kvs : List (Int × V)) (ds : List (Int × PyData)), σ[j]? = some (some (.ref a)) ∧ e1.getD j .none = .dict (ds.map kvD) ∧ G1 a = none ∧ H1 a = some (.dK (kvs.map kvV)) ∧ kvs.map (·.1) = ds.map (·.1) ∧ DqA K G1 (kvs.map (·.2)) (ds.map (·.2)) ∧
      ∀ (kvs' : List (Int × V)) (ds' : List (Int × PyData)), kvs'.map (·.1) = ds'.map (·.1) → DqA K G1 (kvs'.map (·.2)) (ds'.map (·.2)) → kvs'.length ≤ sizeLine → ∃ A2, Step A G H A2 G1 (upd H1 a (.dK (kvs'.map kvV))) ∧ Stt K m G1 (upd H1 a (.dK (kvs'.map kvV))) σ (e1.set j (.dict (ds'.map kvD))) A2 := by
  obtain ⟨dj, vj, Aj, A0, h1, h2, h3, h4, hp⟩ := ownA_take st.own hm
  have n1 := List.nodup_append.mp (hp.nodup_iff.mp st.nd)
  cases h3 with
  | @d a kvs ds ga ha hk q hz =>
    have haA : a ∈ A1 := hp.mem_iff.mpr (List.mem_append_left _ (List.mem_singleton.mpr rfl))
    have ne : ∀ b ∈ A0, b ≠ a := fun b hb z => n1.2.2 a (List.mem_singleton.mpr rfl) b hb z.symm
    refine ⟨a, kvs, ds, h2, by rw [List.getD_eq_getElem?_getD, h1]; rfl, ga, ha, hk, q, fun kvs' ds' hk' q' hz' => ?_⟩
    have fr : ∀ b, b ≠ a → upd H1 a (.dK (kvs'.map kvV)) b = H1 b := fun b hb => upd_ne hb
    have oN : Own K G1 (upd H1 a (.dK (kvs'.map kvV))) .d (.dict (ds'.map kvD)) (some (.ref a)) [a] := .d ga upd_same hk' q' hz'
    have hu : (m.set j .u)[j]? = some .u := by rw [List.getElem?_set_self (List.getElem?_eq_some_iff.mp hm).1]
    obtain ⟨A2, o2, p2⟩ := ownA_put (ownA_fr (H' := upd H1 a (.dK (kvs'.map kvV))) h4 (Same.refl G1) (fun b hb => (ownA_at h4 b hb).1) fun b hb => fr b (ne b hb)) hu oN
    rw [List.set_set, set_id (l := m) hm, set_id (l := σ) h2] at o2
    have inA : ∀ b ∈ A2, b ∈ A1 := fun b hb => hp.mem_iff.mpr (p2.mem_iff.mp hb)
    refine ⟨A2, ⟨s1.sg, fun b o hb hbA => ?_, fun b hb => s1.own b (List.mem_append_right _ (inA b hb)), s1.gnew⟩, ⟨o2, p2.nodup_iff.mpr (hp.nodup_iff.mp st.nd), fun b o hb => ?_⟩⟩
    · have hne : b ≠ a := fun z => by
        rcases s1.own a (List.mem_append_right _ haA) with k | k
        · exact hbA (z ▸ k)
        · rw [← z, hb] at k; cases k
      rw [fr b hne]; exact s1.fr b o hb hbA
    · rw [fr b (ne_of_none hb ga)]; exact st.sub b o hb
end
/-! the data's side -/
def eDGet (j : Nat) (f : Ef) : Ef := fun e => (f e).bind fun p => (gDGet (p.2.getD j .none) p.1).bind fun d => some (d, p.2)
def eDOp (g : PyData → PyData → Option PyData) (j : Nat) (f : Ef) : Ef := fun e => (f e).bind fun p => (g (p.2.getD j .none) p.1).bind fun d => some (d, p.2)
def eDGet2 (j : Nat) (f h : Ef) : Ef := fun e => (f e).bind fun p => (h p.2).bind fun q => (gDGet2 (q.2.getD j .none) p.1 q.1).bind fun d => some (d, q.2)
def sDPutD (j : Nat) (fi fv : Ef) : Sf := fun e => (fv e).bind fun p => (fi p.2).bind fun q => (gDPut (q.2.getD j .none) q.1 p.1).bind fun d => some (.nx, q.2.set j d)
section
variable {ι : Type} {Xf : ι → Cx} {P : Program} {w : World} {K : PySem.W.Frag} {mg : Str → Option Value} {base : Heap} {n : Nat} [F : Fam Xf P w K mg base n]
variable {m m1 m2 m3 : List Ty} {pos p p2 apos cpos xp : Pos} {a b c : Expr} {f g h : Ef}
theorem pd_dNew : PD Xf K m (.Dict [] [] pos) .d (eC (.dict [])) m := by
  refine ⟨tDNewK, fun i => pe_dnewK, fun {G H σ e A d e' Q} st hf k => ?_⟩
  cases hf
  intro p hp
  obtain ⟨s1, st1, nd, gp⟩ := new_o (o := .dK []) (B := []) st hp
  exact k _ _ _ [p] A s1 st1 (.d (kvs := []) (ds := []) gp upd_same rfl DqA.nil (Nat.zero_le _)) nd
omit F in
theorem key_int {G : Hp} {x : V} {i : Int} (q : Dq K G x (.int i)) : x = kV (Sum.inl i) := dq_int q
omit F in
theorem DE.dget {ti : TE} {j : Nat} {t0 : Ty} (h0 : m[j]? = some t0) (hl0 : lstTy t0 = true) (hi : DE K m ti .s f m1) (hm : m1[j]? = some .d) : DE K m (tDGet (tVar j) ti) .s (eDGet j f) m1 := by
  intro G H σ e A d e' Q st hf k
  obtain ⟨⟨di, e1⟩, hf1, hf⟩ := Option.bind_eq_some_iff.mp hf
  obtain ⟨x, hx, hf⟩ := Option.bind_eq_some_iff.mp hf
  cases hf
  obtain ⟨d0, v0, B0, C0, g1, g2, g3, _, _⟩ := ownA_take st.own h0
  have hv0 : ∃ w, v0 = some w := by cases g3 with | u => cases hl0 | s => cases hl0 | q => cases hl0 | e => cases hl0 | k => cases hl0 | a => cases hl0 | d => exact ⟨_, rfl⟩ | l => exact ⟨_, rfl⟩ | r => exact ⟨_, rfl⟩
  obtain ⟨w, rfl⟩ := hv0
  refine ⟨w, g2, hi st hf1 fun G1 H1 y A1 B1 s1 st1 o1 nd1 => ?_⟩
  obtain ⟨a, kvs, ds, h2, h1, ga, ha, hk, q, wr⟩ := slot_dict s1 nd1 st1 hm
  rw [g2] at h2
  cases h2
  cases o1 with
  | s q1 =>
    rw [show List.getD (di, e1).2 j .none = .dict (ds.map kvD) from h1] at hx
    cases di with
    | int i =>
      rw [show gDGet (.dict (ds.map kvD)) (.int i) = lookD (ds.map kvD) i from rfl, look_map] at hx
      rcases val_rel i hk q with ⟨_, z⟩ | ⟨v, d, z1, z2, qv⟩
      · rw [z] at hx; cases hx
      · rw [z2] at hx
        cases hx
        exact ⟨a, v, rfl, .inl ⟨_, _, .inl ha, key_int q1, z1.symm⟩, k _ _ v _ _ s1 st1 (.s qv) nd1⟩
    | _ => cases hx
include F in
theorem pd_dGet (j : Nat) {t0 : Ty} {x : Str} (hi : PD Xf K m b .s f m1) (h0 : m[j]? = some t0 := by rfl) (hl0 : lstTy t0 = true := by rfl) (hm : m1[j]? = some .d := by rfl) (hN : ∀ i, (Xf i).N[j]? = some x := by intro _; rfl)
    (hv : ∀ i, Vis (Xf i).env.scope x := by first | (intro _; exact Or.inl rfl) | (intro _; exact Or.inr (Or.inl rfl)) | (intro _; exact Or.inr (Or.inr rfl))) (hd : (x == ("__debug__" : Str)) = false := by decide) (hcd : (x == ("__classdict__" : Str)) = false := by decide) (hs : NoSl b := by exact fun _ _ => rfl) :
    PD Xf K m (.Subscript (.Name x xp) b pos) .s (eDGet j f) m1 := by
  obtain ⟨tb, pb, db⟩ := hi.ex
  exact ⟨_, fun i => pe_dget (by have := (F.room i).un; omega) (pe_var (pos := xp) (hN i) (hv i) hd hcd) (pb i) hs, DE.dget h0 hl0 db hm⟩
omit F in
theorem DE.din {ti : TE} {j : Nat} (hi : DE K m ti .s f m1) (hm : m1[j]? = some .d) : DE K m (tDIn ti (tVar j)) .s (eDOp gDIn j f) m1 := by
  intro G H σ e A d e' Q st hf k
  obtain ⟨⟨di, e1⟩, hf1, hf⟩ := Option.bind_eq_some_iff.mp hf
  obtain ⟨x, hx, hf⟩ := Option.bind_eq_some_iff.mp hf
  cases hf
  refine hi st hf1 fun G1 H1 y A1 B1 s1 st1 o1 nd1 => ?_
  obtain ⟨a, kvs, ds, h2, h1, ga, ha, hk, q, wr⟩ := slot_dict s1 nd1 st1 hm
  refine ⟨.ref a, h2, ?_⟩
  cases o1 with
  | s q1 =>
    rw [show List.getD (di, e1).2 j .none = .dict (ds.map kvD) from h1] at hx
    cases di with
    | int i =>
      cases (show some (PyData.bool (lookD (ds.map kvD) i).isSome) = some _ from hx)
      rw [look_map] at k
      rcases val_rel i hk q with ⟨z1, z2⟩ | ⟨v, d, z1, z2, qv⟩
      · rw [z2] at k
        exact ⟨a, none, rfl, .inl ⟨_, _, .inl ha, key_int q1, z1.symm⟩, k _ _ _ _ _ s1 st1 (.s (.bl _)) nd1⟩
      · rw [z2] at k
        exact ⟨a, some v, rfl, .inl ⟨_, _, .inl ha, key_int q1, z1.symm⟩, k _ _ _ _ _ s1 st1 (.s (.bl _)) nd1⟩
    | _ => cases hx
omit F in
theorem DE.dnotin {ti : TE} {j : Nat} (hi : DE K m ti .s f m1) (hm : m1[j]? = some .d) : DE K m (tDNotIn ti (tVar j)) .s (eDOp gDNotIn j f) m1 := by
  intro G H σ e A d e' Q st hf k
  obtain ⟨⟨di, e1⟩, hf1, hf⟩ := Option.bind_eq_some_iff.mp hf
  obtain ⟨x, hx, hf⟩ := Option.bind_eq_some_iff.mp hf
  cases hf
  refine hi st hf1 fun G1 H1 y A1 B1 s1 st1 o1 nd1 => ?_
  obtain ⟨a, kvs, ds, h2, h1, ga, ha, hk, q, wr⟩ := slot_dict s1 nd1 st1 hm
  refine ⟨.ref a, h2, ?_⟩
  cases o1 with
  | s q1 =>
    rw [show List.getD (di, e1).2 j .none = .dict (ds.map kvD) from h1] at hx
    cases di with
    | int i =>
      cases (show some (PyData.bool (!(lookD (ds.map kvD) i).isSome)) = some _ from hx)
      rw [look_map] at k
      rcases val_rel i hk q with ⟨z1, z2⟩ | ⟨v, d, z1, z2, qv⟩
      · rw [z2] at k
        exact ⟨a, none, rfl, .inl ⟨_, _, .inl ha, key_int q1, z1.symm⟩, k _ _ _ _ _ s1 st1 (.s (.bl _)) nd1⟩
      · rw [z2] at k
        exact ⟨a, some v, rfl, .inl ⟨_, _, .inl ha, key_int q1, z1.symm⟩, k _ _ _ _ _ s1 st1 (.s (.bl _)) nd1⟩
    | _ => cases hx
include F in
theorem pd_dIn (j : Nat) {x : Str} (hi : PD Xf K m a .s f m1) (hm : m1[j]? = some .d := by rfl) (hN : ∀ i, (Xf i).N[j]? = some x := by intro _; rfl)
    (hv : ∀ i, Vis (Xf i).env.scope x := by first | (intro _; exact Or.inl rfl) | (intro _; exact Or.inr (Or.inl rfl)) | (intro _; exact Or.inr (Or.inr rfl))) (hd : (x == ("__debug__" : Str)) = false := by decide) (hcd : (x == ("__classdict__" : Str)) = false := by decide) :
    PD Xf K m (.Compare a [.In] [.Name x xp] pos) .s (eDOp gDIn j f) m1 := by
  obtain ⟨tb, pb, db⟩ := hi.ex
  exact ⟨_, fun i => pe_cmp (pc_din (by have := (F.room i).un; omega) (pb i) (pe_var (pos := xp) (hN i) (hv i) hd hcd)), DE.din db hm⟩
include F in
theorem pd_dNotIn (j : Nat) {x : Str} (hi : PD Xf K m a .s f m1) (hm : m1[j]? = some .d := by rfl) (hN : ∀ i, (Xf i).N[j]? = some x := by intro _; rfl)
    (hv : ∀ i, Vis (Xf i).env.scope x := by first | (intro _; exact Or.inl rfl) | (intro _; exact Or.inr (Or.inl rfl)) | (intro _; exact Or.inr (Or.inr rfl))) (hd : (x == ("__debug__" : Str)) = false := by decide) (hcd : (x == ("__classdict__" : Str)) = false := by decide) :
    PD Xf K m (.Compare a [.NotIn] [.Name x xp] pos) .s (eDOp gDNotIn j f) m1 := by
  obtain ⟨tb, pb, db⟩ := hi.ex
  exact ⟨_, fun i => pe_cmp (pc_dnotin (by have := (F.room i).un; omega) (pb i) (pe_var (pos := xp) (hN i) (hv i) hd hcd)), DE.dnotin db hm⟩
include F in
/-- the same as tests -/
theorem pb_dIn (j : Nat) {x : Str} (hi : PD Xf K m a .s f m1) (hm : m1[j]? = some .d := by rfl) (hN : ∀ i, (Xf i).N[j]? = some x := by intro _; rfl)
    (hv : ∀ i, Vis (Xf i).env.scope x := by first | (intro _; exact Or.inl rfl) | (intro _; exact Or.inr (Or.inl rfl)) | (intro _; exact Or.inr (Or.inr rfl))) (hd : (x == ("__debug__" : Str)) = false := by decide) (hcd : (x == ("__classdict__" : Str)) = false := by decide) :
    PB Xf K m (.Compare a [.In] [.Name x xp] pos) (bT (eDOp gDIn j f)) m1 := by
  obtain ⟨tb, pb, db⟩ := hi.ex
  exact ⟨_, fun i => pt_cmp (pc_din (by have := (F.room i).un; omega) (pb i) (pe_var (pos := xp) (hN i) (hv i) hd hcd)), DE.test (DE.din db hm)⟩
include F in
theorem pb_dNotIn (j : Nat) {x : Str} (hi : PD Xf K m a .s f m1) (hm : m1[j]? = some .d := by rfl) (hN : ∀ i, (Xf i).N[j]? = some x := by intro _; rfl)
    (hv : ∀ i, Vis (Xf i).env.scope x := by first | (intro _; exact Or.inl rfl) | (intro _; exact Or.inr (Or.inl rfl)) | (intro _; exact Or.inr (Or.inr rfl))) (hd : (x == ("__debug__" : Str)) = false := by decide) (hcd : (x == ("__classdict__" : Str)) = false := by decide) :
    PB Xf K m (.Compare a [.NotIn] [.Name x xp] pos) (bT (eDOp gDNotIn j f)) m1 := by
  obtain ⟨tb, pb, db⟩ := hi.ex
  exact ⟨_, fun i => pt_cmp (pc_dnotin (by have := (F.room i).un; omega) (pb i) (pe_var (pos := xp) (hN i) (hv i) hd hcd)), DE.test (DE.dnotin db hm)⟩
omit F in
theorem DE.dget2 {ti tz : TE} {j : Nat} (h0 : m[j]? = some .d) (hi : DE K m ti .s f m1) (hz : DE K m1 tz .s h m2) (hm : m2[j]? = some .d) : DE K m (tDGet2 (tVar j) ti tz) .s (eDGet2 j f h) m2 := by
  intro G H σ e A d e' Q st hf k
  obtain ⟨⟨di, e1⟩, hf1, hf⟩ := Option.bind_eq_some_iff.mp hf
  obtain ⟨⟨dz, e2⟩, hf2, hf⟩ := Option.bind_eq_some_iff.mp hf
  obtain ⟨x, hx, hf⟩ := Option.bind_eq_some_iff.mp hf
  cases hf
  obtain ⟨a0, kvs0, ds0, g2, _, _, ha0, _⟩ := slot_dict (Av := []) (Step.refl (A := A)) st.nd st h0
  refine ⟨.ref a0, g2, a0, rfl, .inl ⟨_, .inl ha0⟩, ?_⟩
  refine hi st hf1 fun G1 H1 y A1 B1 s1 st1 o1 nd1 => ?_
  cases o1 with
  | s q1 =>
    refine hz st1 hf2 fun G2 H2 z A2 B2 s2 st2 o2 nd2 => ?_
    cases o2 with
    | s q2 =>
      obtain ⟨a, kvs, ds, h2, h1, ga, ha, hk, q, wr⟩ := slot_dict (s1.seq0 s2) nd2 st2 hm
      rw [g2] at h2
      cases h2
      rw [show List.getD (dz, e2).2 j .none = .dict (ds.map kvD) from h1] at hx
      cases di with
      | int i =>
        cases (show some ((lookD (ds.map kvD) i).getD dz) = some _ from hx)
        rw [look_map] at k
        rcases val_rel i hk q with ⟨z1, z2⟩ | ⟨v, d, z1, z2, qv⟩
        · rw [z2] at k
          exact ⟨none, .inl ⟨_, _, .inl ha, key_int q1, z1.symm⟩, k _ _ _ _ _ (s1.seq0 s2) st2 (.s q2) nd2⟩
        · rw [z2] at k
          exact ⟨some v, .inl ⟨_, _, .inl ha, key_int q1, z1.symm⟩, k _ _ _ _ _ (s1.seq0 s2) st2 (.s qv) nd2⟩
      | _ => cases hx
include F in
theorem pd_dGet2 (j : Nat) {x : Str} (hi : PD Xf K m a .s f m1) (hz : PD Xf K m1 b .s h m2) (h0 : m[j]? = some .d := by rfl) (hm : m2[j]? = some .d := by rfl) (hN : ∀ i, (Xf i).N[j]? = some x := by intro _; rfl)
    (hv : ∀ i, Vis (Xf i).env.scope x := by first | (intro _; exact Or.inl rfl) | (intro _; exact Or.inr (Or.inl rfl)) | (intro _; exact Or.inr (Or.inr rfl))) (hd : (x == ("__debug__" : Str)) = false := by decide) (hcd : (x == ("__classdict__" : Str)) = false := by decide)
    (hM : ∀ i, M2 (Xf i) (.Name x xp) "get" apos a b cpos := by intro _; exact ⟨rfl, rfl, rfl, rfl⟩) :
    PD Xf K m (.Call (.Attribute (.Name x xp) "get" apos) [a, b] [] cpos) .s (eDGet2 j f h) m2 := by
  obtain ⟨tb, pb, db⟩ := hi.ex
  obtain ⟨tz, pz, dz⟩ := hz.ex
  exact ⟨_, fun i => pe_dget2 (by have := (F.room i).un; omega) (pe_var (pos := xp) (hN i) (hv i) hd hcd) (pb i) (pz i) (hM i), DE.dget2 h0 db dz hm⟩
variable {M : Mk} {spos pos' : Pos}
include F in
theorem ds_dput (j : Nat) {x : Str} (he : PD Xf K m c .s f m1) (hi : PD Xf K m1 a .s g m2) (h0 : m1[j]? = some .d := by rfl) (hm : m2[j]? = some .d := by rfl) (hN : ∀ i, (Xf i).N[j]? = some x := by intro _; rfl)
    (hv : ∀ i, Vis (Xf i).env.scope x := by first | (intro _; exact Or.inl rfl) | (intro _; exact Or.inr (Or.inl rfl)) | (intro _; exact Or.inr (Or.inr rfl))) (hd : (x == ("__debug__" : Str)) = false := by decide) (hcd : (x == ("__classdict__" : Str)) = false := by decide)
    (hs : ∀ z, swapsWith c (some (.Subscript (.Name x xp) a pos')) spos.line (Xf z).env = pure false := by intro _; rfl) :
    PSd Xf K M m (.Assign [.Subscript (.Name x xp) a pos'] c spos) (sDPutD j g f) m2 := by
  obtain ⟨tv, pv, dv⟩ := he.ex
  obtain ⟨ti, pi, di⟩ := hi.ex
  refine ⟨_, fun i => ps_dput (by have := (F.room i).un; omega) (pe_var (pos := xp) (hN i) (hv i) hd hcd) (pi i) (pv i) (hs i), fun {G H σ e A o e' D} st hf k => ?_⟩
  obtain ⟨⟨dx, e1⟩, hf1, hf⟩ := Option.bind_eq_some_iff.mp hf
  obtain ⟨⟨dy, e2⟩, hf2, hf⟩ := Option.bind_eq_some_iff.mp hf
  obtain ⟨d, hf3, hf⟩ := Option.bind_eq_some_iff.mp hf
  cases hf
  refine dv st hf1 fun G1 H1 v A1 B1 s1 st1 o1 nd1 => ?_
  cases o1 with
  | s q1 =>
    obtain ⟨a0, kvs0, ds0, g2, _, _, ha0, _⟩ := slot_dict s1 nd1 st1 h0
    refine ⟨.ref a0, g2, ?_⟩
    refine di st1 hf2 fun G2 H2 y A2 B2 s2 st2 o2 nd2 => ?_
    cases o2 with
    | s q2 =>
      obtain ⟨a, kvs, ds, h2, h1, ga, ha, hk, q, wr⟩ := slot_dict (s1.seq0 s2) nd2 st2 hm
      rw [g2] at h2
      cases h2
      rw [show List.getD (dy, e2).2 j .none = .dict (ds.map kvD) from h1] at hf3
      cases dy with
      | int i =>
        obtain ⟨hz, rfl⟩ := ite_some hf3
        rw [putD_map] at k
        rw [List.length_map] at hz
        have ll : kvs.length = ds.length := by have := congrArg List.length hk; simpa using this
        have := putI_len kvs i v
        obtain ⟨A3, s3, st3⟩ := wr (putI kvs i v) (putI ds i dx) (putI_keys hk i v dx) (put_rel i (q1.mono s2.sg) hk q) (by omega)
        refine ⟨a0, _, rfl, .inl ⟨_, _, ha, key_int q2, by rw [List.length_map]; omega, rfl⟩, ?_⟩
        rw [putK_map]
        exact k G2 _ _ A3 s3 st3 Pin.refl
      | _ => cases hf3
end
end DL

namespace DL
open PySem L2 PySem.Spec

/-! ### an owned list read as a whole: xs + ys; a place as a target -/
def gItm (j : Nat) (gi : Gq) : Gf := fun d e => (gi e).bind fun i => match e.getD j .none, i with
  | .list ds, .int k => (ixN ds.length k).map fun z => e.set j (.list (ds.set z d))
  | _, _ => none
section
variable {K : PySem.W.Frag} {G H G1 H1 : Hp} {m m1 m2 mn : List Ty} {σ : St} {e : En} {A A1 : List Addr} {t : Ty} {ts : List Ty}
theorem DE.catV {tb : TE} {f : Ef} {j : Nat} {t0 : Ty} (h0 : m[j]? = some t0) (hl0 : lstTy t0 = true) (hb : DE K m tb .s f m1) (hm : m1[j]? = some (.l .s)) : DE K m (tOp rCatR (tVar j) tb) (.l .s) (eDOp gAddL j f) m1 := by
  intro G H σ e A d e' Q st hf k
  obtain ⟨⟨dy, e1⟩, hf1, hf⟩ := Option.bind_eq_some_iff.mp hf
  obtain ⟨x, hx, hf⟩ := Option.bind_eq_some_iff.mp hf
  cases hf
  obtain ⟨d0, v0, B0, C0, g1, g2, g3, _, _⟩ := ownA_take st.own h0
  have hv0 : ∃ w, v0 = some w := by cases g3 with | u => cases hl0 | s => cases hl0 | q => cases hl0 | e => cases hl0 | k => cases hl0 | a => cases hl0 | d => exact ⟨_, rfl⟩ | l => exact ⟨_, rfl⟩ | r => exact ⟨_, rfl⟩
  obtain ⟨w, rfl⟩ := hv0
  refine ⟨w, g2, hb st hf1 fun G1 H1 y A1 B1 s1 st1 o1 nd1 => ?_⟩
  obtain ⟨a, vs, ds, h2, h1, ga, ha, hz, q, wr⟩ := slot_list s1 nd1 st1 hm
  rw [g2] at h2
  cases h2
  cases o1 with
  | s q1 =>
    rw [show List.getD (dy, e1).2 j .none = .list ds from h1] at hx
    cases dy with
    | list es =>
      obtain ⟨hlen, rfl⟩ := ite_some (show (if ds.length + es.length ≤ sizeLine then some (PyData.list (ds ++ es)) else none) = some _ from hx)
      obtain ⟨b, ys, rfl, r2, z2, q2⟩ := dq_lst q1
      refine ⟨a, b, vs, ys, rfl, rfl, .inl ha, same_rd st1.sub r2, by rw [q.1, q2.1]; exact hlen, ?_⟩
      exact ans_lst st1 (q.append q2) (by rw [List.length_append, q.1, q2.1]; exact hlen) fun G2 H2 v Av A2 s2 st2 o2 nd2 => k G2 H2 v Av A2 (s1.seq0 s2) st2 o2 nd2
    | _ => cases hx
theorem DG.itm {ti : TE} {gi : Gq} {j : Nat} (hm : m[j]? = some (.l .s)) (hi : DQv K m ti gi) : DG K false m (L2.gSub (tVar j) ti rSetL) [] (gItm j gi) m := by
  intro G H σ e A x d e' Q st q0 hf k
  have q := q0.strong
  obtain ⟨di, h2, hf⟩ := Option.bind_eq_some_iff.mp hf
  obtain ⟨a, vs, ds, hs, h1, ga, ha, hz, qv, _⟩ := slot_list (Av := []) (Step.refl (A := A)) st.nd st hm
  rw [h1] at hf
  cases di with
  | int i =>
    obtain ⟨z, hj, hf⟩ := Option.map_eq_some_iff.mp hf
    cases hf
    refine ⟨.ref a, hs, hi st h2 fun H3 y sH3 qy => ?_⟩
    cases qy
    obtain ⟨s2, st2⟩ := stt_grow st sH3
    obtain ⟨a2, vs2, ds2, hs2, h12, ga2, ha2, hz2, qv2, wr⟩ := slot_list (Av := []) s2 st2.nd st2 hm
    rw [hs] at hs2
    cases hs2
    rw [h1] at h12
    cases h12
    have dz : z < ds.length := (ixN_seq hj).2.1
    obtain ⟨A2, s3, st3⟩ := wr (vs2.set z x) (ds.set z d) ⟨by rw [List.length_set, List.length_set, qv2.1], fun i v d' e1 e2 => by
      rw [List.getElem?_set] at e1 e2
      by_cases hz3 : z = i
      · subst hz3
        rw [if_pos rfl] at e1 e2
        have l1 : z < vs2.length := by rw [qv2.1]; exact dz
        simp [l1] at e1
        simp [dz] at e2
        rw [← e1, ← e2]; exact q
      · rw [if_neg hz3] at e1 e2
        exact qv2.2 _ _ _ e1 e2⟩ (by rw [List.length_set]; exact hz2)
    exact ⟨a, vs2, i, z, rfl, rfl, ha2, by rw [qv2.1]; exact hj, k G _ σ A2 s3 st3 (fun _ _ => rfl) rfl⟩
  | _ => cases hf
end
section
variable {ι : Type} {Xf : ι → Cx} {P : Program} {w : World} {K : PySem.W.Frag} {mg : Str → Option Value} {base : Heap} {n : Nat} [F : Fam Xf P w K mg base n]
variable {m m1 m2 m3 : List Ty} {pos p p2 apos cpos xp : Pos} {a b c i : Expr} {f g h : Ef} {gi : Gq}
theorem pd_catV (j : Nat) {t0 : Ty} {x : Str} (hb : PD Xf K m b .s f m1) (h0 : m[j]? = some t0 := by rfl) (hl0 : lstTy t0 = true := by rfl) (hm : m1[j]? = some (.l .s) := by rfl) (hN : ∀ i, (Xf i).N[j]? = some x := by intro _; rfl)
    (hv : ∀ i, Vis (Xf i).env.scope x := by first | (intro _; exact Or.inl rfl) | (intro _; exact Or.inr (Or.inl rfl)) | (intro _; exact Or.inr (Or.inr rfl))) (hd : (x == ("__debug__" : Str)) = false := by decide) (hcd : (x == ("__classdict__" : Str)) = false := by decide) :
    PD Xf K m (.BinOp (.Name x xp) .Add b pos) (.l .s) (eDOp gAddL j f) m1 := by
  obtain ⟨tb, pb, db⟩ := hb.ex
  exact ⟨_, fun i => pe_op op_catR (pe_var (pos := xp) (hN i) (hv i) hd hcd) (pb i), DE.catV h0 hl0 db hm⟩
theorem pg_itm (j : Nat) {x : Str} (hi : PQ Xf K m i gi) (hm : m[j]? = some (.l .s) := by rfl) (hN : ∀ i, (Xf i).N[j]? = some x := by intro _; rfl)
    (hv : ∀ i, Vis (Xf i).env.scope x := by first | (intro _; exact Or.inl rfl) | (intro _; exact Or.inr (Or.inl rfl)) | (intro _; exact Or.inr (Or.inr rfl))) (hd : (x == ("__debug__" : Str)) = false := by decide) (hcd : (x == ("__classdict__" : Str)) = false := by decide)
    (ha : ∀ z v, assign (.Subscript (.Name x xp) i pos) (Xf z).env v = (do
      let ov ← holding [v] (eval (.Name x xp) (Xf z).env)
      let iv ← holding [v, ov] (eval i (Xf z).env)
      standAt pos
      holding [v, ov, iv] (setItem ov iv v)
      release [v, ov, iv] []) := by intro _ _; rfl) : PGD Xf K false m (.Subscript (.Name x xp) i pos) [] (gItm j gi) m := by
  obtain ⟨tb, pb, db⟩ := hi.ex
  exact ⟨_, fun z => pg_sub (pe_var (pos := xp) (hN z) (hv z) hd hcd) (pb z) set_list (ha z), DG.itm hm db⟩
end
end DL

namespace DL
open PySem L2 PySem.Spec PyProof.Rows

/-! ### xs.index(x), xs.count(x), of lists and tuples -/
def okIx (ds : List PyData) (x : PyData) : Bool := decide (min (PyData.depthAll ds) x.depth ≤ 60) && (PyData.plainAll ds && x.plain)
def gIndexL (ds : List PyData) (x : PyData) : Option PyData := if (okIx ds x && ds.any fun y => PyData.eqv y x) = true then some (.int (((ds.map fun y => PyData.eqv y x).idxOf true : Nat) : Int)) else none
def gCountL (ds : List PyData) (x : PyData) : Option PyData := if okIx ds x = true then some (.int ((ds.countP fun y => PyData.eqv y x : Nat) : Int)) else none
def gIndex (d x : PyData) : Option PyData := match d with
  | .list ds => gIndexL ds x
  | .tuple ds => gIndexL ds x
  | _ => none
def gCount (d x : PyData) : Option PyData := match d with
  | .list ds => gCountL ds x
  | .tuple ds => gCountL ds x
  | _ => none
def tyN (K : PySem.W.Frag) (x : V) (H : Hp) : Prop := ∃ p ys, x = .ref p ∧ NdT K H p ys
section
variable {X : Cx} {pins : List (Addr × Obj)} {σ : L2.St} {H : Hp} {s : Shared} {Q : VK}
theorem tyN_is {x : V} {v : Value} (I : Inv X pins σ H s) (r : RelV x v) (ty : tyN X.K x H) : s.TypeIs v "tuple" ∧ ∀ a, v = .ref a → ∃ ob, s.heap.get? a = some ob ∧ ob.dict = none := by
  obtain ⟨p, ys, rfl, h⟩ := ty
  cases r
  rcases h with ⟨o, hc, hd, h⟩ | ⟨o, its, n, hk, hc, hd, _⟩
  · obtain ⟨e, _⟩ : s.heap.get? p = some o ∧ _ := I.hok p _ h
    exact ⟨⟨o, e, hc⟩, fun a z => by cases z; exact ⟨o, e, hd⟩⟩
  · have e := I.kIn p o hk
    exact ⟨⟨o, e, hc⟩, fun a z => by cases z; exact ⟨o, e, hd⟩⟩
theorem items_eq (I : Inv X pins σ H s) {A : Around} {ys : List V} {ds : List PyData} {its : List Value} {y : V} {u : Value} {dy : PyData} (q : DqA X.K H ys ds) (rv : Vals ys its) (qy : Dq X.K H y dy) (ry : RelV y u) (ok : okIx ds dy = true) (hu : A.units + 70 < cLine) :
    PySem.SeqAt.ItemsEq A.in1 s its (ds.map fun z => PyData.eqv z dy) u true := by
  unfold okIx at ok
  simp only [Bool.and_eq_true, decide_eq_true_eq] at ok
  obtain ⟨h60, hpl, hpy⟩ := ok
  have hl : its.length = ds.length := by rw [← rv.length, q.1]
  refine ⟨by rw [List.length_map]; exact hl, fun j h1 h2 => ?_⟩
  have hj : j < ds.length := by rw [← hl]; exact h1
  have hv : j < ys.length := by rw [q.1]; exact hj
  have qj := q.2 j _ _ (List.getElem?_eq_getElem hv) (List.getElem?_eq_getElem hj)
  obtain ⟨w, hw, rw'⟩ := rv.get (List.getElem?_eq_getElem hv)
  rw [List.getElem?_eq_getElem h1] at hw
  cases hw
  obtain ⟨as, ra⟩ := qj.reads I rw'
  obtain ⟨bs, rb⟩ := qy.reads I ry
  have hd : ds[j].depth ≤ PyData.depthAll ds := depthAll_mem (List.getElem_mem hj)
  have e := PySem.SeqAt.eqAt_plain ds[j] dy A.in1 s its[j] u _ _ ra rb (plain_mem hpl (List.getElem_mem hj)) hpy (by show A.units + 1 + min _ _ < cLine; omega)
  rw [List.getElem_map]
  simpa using e
def rIx (K : PySem.W.Frag) (sq : Hp → Addr → List V → Prop) : V → List V → Hp → VK → Prop := fun x xs H Q => ∃ p ys ds y dy, x = .ref p ∧ xs = [y] ∧ sq H p ys ∧ ys.length ≤ sizeLine ∧ DqA K H ys ds ∧ Dq K H y dy ∧ okIx ds dy = true ∧ (ds.any fun z => PyData.eqv z dy) = true ∧ Q (.int (((ds.map fun z => PyData.eqv z dy).idxOf true : Nat) : Int)) H
def rCt (K : PySem.W.Frag) (sq : Hp → Addr → List V → Prop) : V → List V → Hp → VK → Prop := fun x xs H Q => ∃ p ys ds y dy, x = .ref p ∧ xs = [y] ∧ sq H p ys ∧ DqA K H ys ds ∧ Dq K H y dy ∧ okIx ds dy = true ∧ Q (.int ((ds.countP fun z => PyData.eqv z dy : Nat) : Int)) H
theorem any_mem {ds : List PyData} {dy : PyData} (h : (ds.any fun z => PyData.eqv z dy) = true) : true ∈ ds.map fun z => PyData.eqv z dy := by
  obtain ⟨z, hz, e⟩ := List.any_eq_true.mp h
  exact List.mem_map.mpr ⟨z, hz, e⟩
theorem mt_idxL (hu : X.A.units + 70 < cLine) : MtR X "list.index" (rIx X.K (SqL X.K)) := by
  intro pins s σ H x xs v us Q I rx rs h
  obtain ⟨p, ys, ds, y, dy, rfl, rfl, hs, hz, q, qy, ok, ha, k⟩ := h
  cases rx
  obtain ⟨u, rfl, ru⟩ := vals1 rs
  obtain ⟨its, rv, pl, _⟩ := I.list hs
  exact PySem.SeqAt.call_list_index pl.isList (items_eq I q rv qy ru ok hu) (by rw [List.length_map, ← q.1]; exact hz) (any_mem ha) ⟨.int (((ds.map fun z => PyData.eqv z dy).idxOf true : Nat) : Int), H, I.tok _, ⟨_, rfl⟩, k⟩
theorem mt_idxT (hu : X.A.units + 70 < cLine) : MtR X "tuple.index" (rIx X.K (SqT X.K)) := by
  intro pins s σ H x xs v us Q I rx rs h
  obtain ⟨p, ys, ds, y, dy, rfl, rfl, hs, hz, q, qy, ok, ha, k⟩ := h
  cases rx
  obtain ⟨u, rfl, ru⟩ := vals1 rs
  obtain ⟨its, rv, pl, _⟩ := I.tuple hs
  exact PySem.SeqAt.call_tuple_index pl (items_eq I q rv qy ru ok hu) (any_mem ha) ⟨.int (((ds.map fun z => PyData.eqv z dy).idxOf true : Nat) : Int), H, I.tok _, ⟨_, rfl⟩, k⟩
theorem mt_ctL (hu : X.A.units + 70 < cLine) : MtR X "list.count" (rCt X.K (SqL X.K)) := by
  intro pins s σ H x xs v us Q I rx rs h
  obtain ⟨p, ys, ds, y, dy, rfl, rfl, hs, q, qy, ok, k⟩ := h
  cases rx
  obtain ⟨u, rfl, ru⟩ := vals1 rs
  obtain ⟨its, rv, pl, _⟩ := I.list hs
  unfold okIx at ok
  simp only [Bool.and_eq_true, decide_eq_true_eq] at ok
  obtain ⟨as, ra⟩ := q.reads I rv
  obtain ⟨bs, rb⟩ := qy.reads I ru
  exact PySem.SeqAt.count_list_data (vs := its.toArray) pl.isList (by simpa using ra) rb ok.2.1 ok.2.2 (by omega) ⟨.int ((ds.countP fun z => PyData.eqv z dy : Nat) : Int), H, I.tok _, ⟨_, rfl⟩, k⟩
theorem mt_ctT (hu : X.A.units + 70 < cLine) : MtR X "tuple.count" (rCt X.K (SqT X.K)) := by
  intro pins s σ H x xs v us Q I rx rs h
  obtain ⟨p, ys, ds, y, dy, rfl, rfl, hs, q, qy, ok, k⟩ := h
  cases rx
  obtain ⟨u, rfl, ru⟩ := vals1 rs
  obtain ⟨its, rv, pl, _⟩ := I.tuple hs
  unfold okIx at ok
  simp only [Bool.and_eq_true, decide_eq_true_eq] at ok
  obtain ⟨as, ra⟩ := q.reads I rv
  obtain ⟨bs, rb⟩ := qy.reads I ru
  exact PySem.SeqAt.count_tuple_data (vs := its.toArray) pl (by simpa using ra) rb ok.2.1 ok.2.2 (by omega) ⟨.int ((ds.countP fun z => PyData.eqv z dy : Nat) : Int), H, I.tok _, ⟨_, rfl⟩, k⟩
def tSeqM (K : PySem.W.Frag) (rL rT : V → List V → Hp → VK → Prop) (to : TE) (t : TA) : TE := fun σ H Q => to σ H fun x H1 =>
  (tyV K "list" x H1 ∧ t σ H1 fun xs H2 => rL x xs H2 Q) ∨ (tyN K x H1 ∧ t σ H1 fun xs H2 => rT x xs H2 Q)
theorem pe_seqM {o e : Expr} {to : TE} {t : TA} {name : Str} {apos cpos : Pos} {iL iT : String} {rL rT : V → List V → Hp → VK → Prop} (sL : Slot "list" name iL) (tL : typeOf (.builtin iL) = pure (.type "method_descriptor")) (mL : MtR X iL rL)
    (sT : Slot "tuple" name iT) (tT : typeOf (.builtin iT) = pure (.type "method_descriptor")) (mT : MtR X iT rT) (ho : PE X o to) (ha : PA X [e] t)
    (hbase : attributeBase o name X.env (eval o X.env) = eval o X.env)
    (hfew : ((backTo cpos (starEach [e] X.env)).all (fun x => !x.1) && (backToKw cpos (keywordEach [] X.env)).all (fun x => x.1.isSome)
      && decide ([e].length + ([] : List Keyword).length + (if ([] : List Keyword).isEmpty then 0 else 1) < 30)) = true)
    (hline : (apos.endLine == cpos.line) = true) (hs : starEach [e] X.env = (false, eval e X.env) :: starEach [] X.env) (hplain : (backTo cpos (starEach [] X.env)).any (·.1) = false) :
    PE X (.Call (.Attribute o name apos) [e] [] cpos) (tSeqM X.K rL rT to t) := by
  refine ⟨fun pins s σ H Q I h => ?_⟩
  refine wpAny_Call_method_late hbase hfew hline rfl (thn (ho.run pins s σ H _ I h) fun v s2 ⟨x, H1, I1, r1, q1⟩ => ?_)
  rcases q1 with ⟨ty, q1⟩ | ⟨ty, q1⟩
  · obtain ⟨h1, h2⟩ := tyV_is I1 r1 ty
    refine ⟨"list", iL, PySem.F.plainAttrs_list, sL, tL, h1, h2, ?_⟩
    have hA := ha.run cpos pins s2 σ H1 _ I1 q1
    rw [hs] at hA ⊢
    refine Calls.callWith_builtin (by show (false || (backTo cpos (starEach [] X.env)).any (·.1)) = false; rw [hplain]; rfl) (Calls.evalArgs_plain ?_)
    exact thn hA fun us s3 ⟨vs, H2, I2, r2, q2⟩ => mL pins s3 σ H2 x vs v us Q I2 r1 r2 q2
  · obtain ⟨h1, h2⟩ := tyN_is I1 r1 ty
    refine ⟨"tuple", iT, PySem.F.plainAttrs_tuple, sT, tT, h1, h2, ?_⟩
    have hA := ha.run cpos pins s2 σ H1 _ I1 q1
    rw [hs] at hA ⊢
    refine Calls.callWith_builtin (by show (false || (backTo cpos (starEach [] X.env)).any (·.1)) = false; rw [hplain]; rfl) (Calls.evalArgs_plain ?_)
    exact thn hA fun us s3 ⟨vs, H2, I2, r2, q2⟩ => mT pins s3 σ H2 x vs v us Q I2 r1 r2 q2
end
end DL
namespace DL
open PySem L2 PySem.Spec
section
variable {ι : Type} {Xf : ι → Cx} {P : Program} {w : World} {K : PySem.W.Frag} {mg : Str → Option Value} {base : Heap} {n : Nat} [F : Fam Xf P w K mg base n]
variable {m m1 m2 m3 : List Ty} {pos p p2 apos cpos xp : Pos} {a b c : Expr} {f g h : Ef}
include F in
theorem pd_index (ha : PD Xf K m a .s f m1) (hb : PD Xf K m1 b .s g m2) (hbase : ∀ i, attributeBase a "index" (Xf i).env (eval a (Xf i).env) = eval a (Xf i).env := by intro _; rfl)
    (hfew : ∀ i, ((backTo cpos (starEach [b] (Xf i).env)).all (fun x => !x.1) && (backToKw cpos (keywordEach [] (Xf i).env)).all (fun x => x.1.isSome)
      && decide ([b].length + ([] : List Keyword).length + (if ([] : List Keyword).isEmpty then 0 else 1) < 30)) = true := by intro _; rfl)
    (hline : (apos.endLine == cpos.line) = true := by rfl) (hs : ∀ i, starEach [b] (Xf i).env = (false, eval b (Xf i).env) :: starEach [] (Xf i).env := by intro _; rfl) (hplain : ∀ i, (backTo cpos (starEach [] (Xf i).env)).any (·.1) = false := by intro _; rfl) :
    PD Xf K m (.Call (.Attribute a "index" apos) [b] [] cpos) .s (e2 gIndex f g) m2 := by
  obtain ⟨ta, pa, da⟩ := ha.ex
  obtain ⟨tb, pb, db⟩ := hb.ex
  refine ⟨tSeqM K (rIx K (SqL K)) (rIx K (SqT K)) ta (tCons tb tNil), fun i => by
    have hu : (Xf i).A.units + 70 < cLine := by have := (F.room i).un; omega
    have mL := mt_idxL (X := Xf i) hu
    have mT := mt_idxT (X := Xf i) hu
    have := pe_seqM PySem.F.slot_list_index PySem.F.type_list_index mL PySem.F.slot_tuple_index PySem.F.type_tuple_index mT (pa i) (pa_cons (pb i) pa_nil (hs i)) (hbase i) (hfew i) hline (hs i) (hplain i)
    rwa [F.kk i] at this, fun {G H σ e A d e' Q} st hf k => ?_⟩
  obtain ⟨⟨d1, e1⟩, hf1, hf⟩ := Option.bind_eq_some_iff.mp hf
  obtain ⟨⟨d2, e2⟩, hf2, hf⟩ := Option.bind_eq_some_iff.mp hf
  obtain ⟨d3, hf3, hf⟩ := Option.bind_eq_some_iff.mp hf
  cases hf
  refine da st hf1 fun G1 H1 v1 A1 B1 s1 st1 o1 nd1 => ?_
  cases o1 with
  | s q1 =>
    have main : ∀ (ds : List PyData) (p : Addr) (ys : List V) (sq : Hp → Addr → List V → Prop), gIndexL ds d2 = some d → v1 = .ref p → (∀ G2 H2, Same G1 G2 → Same G2 H2 → sq H2 p ys) → ys.length ≤ sizeLine → DqA K G1 ys ds → (tCons tb tNil) σ H1 fun xs H2 => rIx K sq v1 xs H2 Q := fun ds p ys sq hg ev hsq hz q => by
      obtain ⟨hc, rfl⟩ := ite_some hg
      rw [Bool.and_eq_true] at hc
      refine db st1 hf2 fun G2 H2 v2 A2 B2 s2 st2 o2 nd2 => ?_
      cases o2 with
      | s q2 => exact ⟨p, ys, ds, v2, _, ev, rfl, hsq G2 H2 s2.sg st2.sub, hz, (q.mono s2.sg).mono st2.sub, q2.mono st2.sub, hc.1, hc.2, k _ _ _ _ _ (s1.seq0 s2) st2 (.s (.int _)) nd2⟩
    cases d1 with
    | list ds =>
      obtain ⟨p, ys, ev, r, hz, q⟩ := dq_lst q1
      subst ev
      exact .inl ⟨.inl ⟨rfl, _, .inl (same_rd st1.sub r)⟩, main ds p ys _ hf3 rfl (fun G2 H2 a b => .inl (same_rd b (same_rd a r))) hz q⟩
    | tuple ds =>
      obtain ⟨p, ys, ev, r, hz, q⟩ := dq_tupN q1
      subst ev
      exact .inr ⟨⟨p, ys, rfl, same_ndT st1.sub r⟩, main ds p ys _ hf3 rfl (fun G2 H2 a b => (same_ndT b (same_ndT a r)).sq) hz q⟩
    | _ => cases hf3
include F in
theorem pd_count (ha : PD Xf K m a .s f m1) (hb : PD Xf K m1 b .s g m2) (hbase : ∀ i, attributeBase a "count" (Xf i).env (eval a (Xf i).env) = eval a (Xf i).env := by intro _; rfl)
    (hfew : ∀ i, ((backTo cpos (starEach [b] (Xf i).env)).all (fun x => !x.1) && (backToKw cpos (keywordEach [] (Xf i).env)).all (fun x => x.1.isSome)
      && decide ([b].length + ([] : List Keyword).length + (if ([] : List Keyword).isEmpty then 0 else 1) < 30)) = true := by intro _; rfl)
    (hline : (apos.endLine == cpos.line) = true := by rfl) (hs : ∀ i, starEach [b] (Xf i).env = (false, eval b (Xf i).env) :: starEach [] (Xf i).env := by intro _; rfl) (hplain : ∀ i, (backTo cpos (starEach [] (Xf i).env)).any (·.1) = false := by intro _; rfl) :
    PD Xf K m (.Call (.Attribute a "count" apos) [b] [] cpos) .s (e2 gCount f g) m2 := by
  obtain ⟨ta, pa, da⟩ := ha.ex
  obtain ⟨tb, pb, db⟩ := hb.ex
  refine ⟨tSeqM K (rCt K (SqL K)) (rCt K (SqT K)) ta (tCons tb tNil), fun i => by
    have hu : (Xf i).A.units + 70 < cLine := by have := (F.room i).un; omega
    have mL := mt_ctL (X := Xf i) hu
    have mT := mt_ctT (X := Xf i) hu
    have := pe_seqM PySem.F.slot_list_count PySem.F.type_list_count mL PySem.F.slot_tuple_count PySem.F.type_tuple_count mT (pa i) (pa_cons (pb i) pa_nil (hs i)) (hbase i) (hfew i) hline (hs i) (hplain i)
    rwa [F.kk i] at this, fun {G H σ e A d e' Q} st hf k => ?_⟩
  obtain ⟨⟨d1, e1⟩, hf1, hf⟩ := Option.bind_eq_some_iff.mp hf
  obtain ⟨⟨d2, e2⟩, hf2, hf⟩ := Option.bind_eq_some_iff.mp hf
  obtain ⟨d3, hf3, hf⟩ := Option.bind_eq_some_iff.mp hf
  cases hf
  refine da st hf1 fun G1 H1 v1 A1 B1 s1 st1 o1 nd1 => ?_
  cases o1 with
  | s q1 =>
    have main : ∀ (ds : List PyData) (p : Addr) (ys : List V) (sq : Hp → Addr → List V → Prop), gCountL ds d2 = some d → v1 = .ref p → (∀ G2 H2, Same G1 G2 → Same G2 H2 → sq H2 p ys) → DqA K G1 ys ds → (tCons tb tNil) σ H1 fun xs H2 => rCt K sq v1 xs H2 Q := fun ds p ys sq hg ev hsq q => by
      obtain ⟨hc, rfl⟩ := ite_some hg
      refine db st1 hf2 fun G2 H2 v2 A2 B2 s2 st2 o2 nd2 => ?_
      cases o2 with
      | s q2 => exact ⟨p, ys, ds, v2, _, ev, rfl, hsq G2 H2 s2.sg st2.sub, (q.mono s2.sg).mono st2.sub, q2.mono st2.sub, hc, k _ _ _ _ _ (s1.seq0 s2) st2 (.s (.int _)) nd2⟩
    cases d1 with
    | list ds =>
      obtain ⟨p, ys, ev, r, hz, q⟩ := dq_lst q1
      subst ev
      exact .inl ⟨.inl ⟨rfl, _, .inl (same_rd st1.sub r)⟩, main ds p ys _ hf3 rfl (fun G2 H2 a b => .inl (same_rd b (same_rd a r))) q⟩
    | tuple ds =>
      obtain ⟨p, ys, ev, r, hz, q⟩ := dq_tupN q1
      subst ev
      exact .inr ⟨⟨p, ys, rfl, same_ndT st1.sub r⟩, main ds p ys _ hf3 rfl (fun G2 H2 a b => (same_ndT b (same_ndT a r)).sq) q⟩
    | _ => cases hf3
end
end DL

namespace DL
open PySem L2 PySem.Spec

/-! ### zip of three tuples -/
def Itz3 (K : PySem.W.Frag) (a b c : Addr) : It where
  go i H := ∃ (xs ys us : List V) (x y u : V), SqT K H a xs ∧ SqT K H b ys ∧ SqT K H c us ∧ xs[i]? = some x ∧ ys[i]? = some y ∧ us[i]? = some u
  yld i H v H' := ∃ (T : Addr) (x y u : V), v = .ref T ∧ H T = none ∧ H' = upd H T (.tup [x, y, u]) ∧ (∀ xs, SqT K H a xs → xs[i]? = some x) ∧ (∀ ys, SqT K H b ys → ys[i]? = some y) ∧ ∀ us, SqT K H c us → us[i]? = some u
  stop i H := ∃ xs ys us : List V, SqT K H a xs ∧ SqT K H b ys ∧ SqT K H c us ∧ i = min (min xs.length ys.length) us.length
theorem ne_iterT {h : Heap} {it a a' : Addr} {i : Nat} {its : Array Value} (h1 : h.IsTupleIter it a i) (h2 : h.IsTuple a' its) : a' ≠ it := fun z => by
  obtain ⟨o, ho, hc, _⟩ := h1
  obtain ⟨o', ho', hc', _⟩ := h2
  rw [z, ho] at ho'; cases ho'
  rw [hc] at hc'; exact absurd (Value.type.inj hc') (by decide)
theorem turn_zip3 {P : Program} {w : World} {K : PySem.W.Frag} {elts : List Expr} {kk : Nat} {tpos : Pos} {a b c z TI TO i1 i2 i3 : Addr} (D : ZipSep3 z TI TO i1 i2 i3 [i1, a] [i2, b] [i3, c]) :
    Turn P w K (.Tuple elts kk tpos) (Itz3 K a b c) [z, TI, TO, i1, i2, i3] z (fun i h => IsZip h z TI TO .none ∧ IsTupOf3 h TI (.ref i1) (.ref i2) (.ref i3) ∧ (∃ p q r, IsTupOf3 h TO p q r) ∧ h.IsTupleIter i1 a i ∧ h.IsTupleIter i2 b i ∧ h.IsTupleIter i3 c i) where
  mem := List.mem_cons_self ..
  obj i h st g hg := by
    obtain ⟨hz, hTI, ⟨p, q, r, hTO⟩, ⟨o1, e1, _, d1⟩, ⟨o2, e2, _, d2⟩, ⟨o3, e3, _, d3⟩⟩ := st
    have cs : g = z ∨ g = TI ∨ g = TO ∨ g = i1 ∨ g = i2 ∨ g = i3 := by simpa using hg
    rcases cs with rfl | rfl | rfl | rfl | rfl | rfl
    · exact ⟨_, hz, fun _ t => nomatch t⟩
    · exact ⟨_, hTI, fun _ t => nomatch t⟩
    · exact ⟨_, hTO, fun _ t => nomatch t⟩
    · exact ⟨o1, e1, fun _ t => by rw [d1] at t; cases t⟩
    · exact ⟨o2, e2, fun _ t => by rw [d2] at t; cases t⟩
    · exact ⟨o3, e3, fun _ t => by rw [d3] at t; cases t⟩
  keep i h h' st k := by
    obtain ⟨hz, hTI, ⟨p, q, r, hTO⟩, e1, e2, e3⟩ := st
    exact ⟨k z (by simp) _ hz, k TI (by simp) _ hTI, ⟨p, q, r, k TO (by simp) _ hTO⟩, e1.at fun o t => k i1 (by simp) o t, e2.at fun o t => k i2 (by simp) o t, e3.at fun o t => k i3 (by simp) o t⟩
  item := by
    rintro X rfl rfl rfl calm i pins s σ H E I own ⟨hz, hTI, ⟨p0, q0, r0, hTO⟩, e1, e2, e3⟩ ⟨xs, ys, us, x, y, u, hqx, hqy, hqu, hx, hy, hu⟩
    obtain ⟨its1, rv1, tp1, _⟩ := I.tuple hqx
    obtain ⟨its2, rv2, tp2, _⟩ := I.tuple hqy
    obtain ⟨its3, rv3, tp3, _⟩ := I.tuple hqu
    obtain ⟨v1, hv1, ru1⟩ := rv1.get hx
    obtain ⟨v2, hv2, ru2⟩ := rv2.get hy
    obtain ⟨v3, hv3, ru3⟩ := rv3.get hu
    have lz := Heap.lt_size hz
    have l1 : i < its1.toArray.size := by simpa using (List.getElem?_eq_some_iff.mp hv1).1
    have l2 : i < its2.toArray.size := by simpa using (List.getElem?_eq_some_iff.mp hv2).1
    have l3 : i < its3.toArray.size := by simpa using (List.getElem?_eq_some_iff.mp hv3).1
    refine wpAny_pyNext_zipD3_item D (Draws.tuple (A := X.A.in1) (I.ok.hd calm) i1 a (ne_iterT e1 tp1) its1.toArray) (Draws.tuple (A := X.A.in1) (I.ok.hd calm) i2 b (ne_iterT e2 tp2) its2.toArray) (Draws.tuple (A := X.A.in1) (I.ok.hd calm) i3 c (ne_iterT e3 tp3) its3.toArray)
      hz hTI hTO ⟨e1, tp1⟩ ⟨e2, tp2⟩ ⟨e3, tp3⟩ l1 l2 l3 fun w1 w2 w3 h1 tk k1 k2 k3 hz1 hTO1 st1 st2 st3 hT sz kept => ?_
    have same1 : w1 = v1 := by
      have t : its1.toArray[i]? = some v1 := by simpa using hv1
      rw [t] at k1; exact (Option.some.inj k1).symm
    have same2 : w2 = v2 := by
      have t : its2.toArray[i]? = some v2 := by simpa using hv2
      rw [t] at k2; exact (Option.some.inj k2).symm
    have same3 : w3 = v3 := by
      have t : its3.toArray[i]? = some v3 := by simpa using hv3
      rw [t] at k3; exact (Option.some.inj k3).symm
    subst same1 same2 same3
    refine ⟨_, rfl, wpAny_letOwnedTupleGo_zip (s := { s with heap := h1, toks := tk }) hz1 fun h2 hz2 sm => ?_⟩
    have T2 : h2.get? s.heap.objs.size = some { cls := .type "tuple", data := .seq #[w1, w2, w3] } := (sm.2 _ (Nat.ne_of_gt lz)).trans hT
    have okT : ObjOk X.prog X.w (upd H s.heap.objs.size (.tup [x, y, u])) h2 s.heap.objs.size (.tup [x, y, u]) :=
      ⟨by show 3 ≤ sizeLine; decide, [w1, w2, w3], .cons ru1 (.cons ru2 (.cons ru3 .nil)), ⟨_, T2, rfl, _, rfl⟩⟩
    have J := I.turnedNew (t' := tk) (ch := [z, TI, TO, i1, i2, i3]) (h' := h2) (fun g ob hb q => (sm.2 g fun t => hb (by simp [t])).trans (kept g ob (fun t => hb (by simp [t])) (fun t => hb (by simp [t])) (fun t => hb (by simp [t])) (fun t => hb (by simp [t])) (fun t => hb (by simp [t])) q)) own (Nat.le_refl _) okT
    refine ⟨.ref s.heap.objs.size, _, J, rfl, ⟨_, x, y, u, rfl, I.hok.fresh (Nat.le_refl _), rfl, fun l hl => by rw [I.tuple_inj hl hqx]; exact hx, fun l hl => by rw [I.tuple_inj hl hqy]; exact hy, fun l hl => by rw [I.tuple_inj hl hqu]; exact hu⟩, ⟨hz2, ?_, ⟨w1, w2, w3, ?_⟩, ?_, ?_, ?_⟩, fun g hg => ?_⟩
    · exact (sm.2 _ D.TIz).trans (kept _ _ D.TIz D.TITO D.TIi1 D.TIi2 D.TIi3 hTI)
    · exact (sm.2 _ D.TOz).trans hTO1
    · exact st1.1.at fun o t => (sm.2 _ (Ne.symm D.zi1)).trans t
    · exact st2.1.at fun o t => (sm.2 _ (Ne.symm D.zi2)).trans t
    · exact st3.1.at fun o t => (sm.2 _ (Ne.symm D.zi3)).trans t
    · have lg : g < s.heap.objs.size := by
        have cs : g = z ∨ g = TI ∨ g = TO ∨ g = i1 ∨ g = i2 ∨ g = i3 := by simpa using hg
        rcases cs with t | t | t | t | t | t
        · rw [t]; exact lz
        · rw [t]; exact Heap.lt_size hTI
        · rw [t]; exact Heap.lt_size hTO
        · rw [t]; obtain ⟨_, m1, _⟩ := e1; exact Heap.lt_size m1
        · rw [t]; obtain ⟨_, m2, _⟩ := e2; exact Heap.lt_size m2
        · rw [t]; obtain ⟨_, m3, _⟩ := e3; exact Heap.lt_size m3
      rw [upd_ne (Nat.ne_of_lt lg)]
      exact (own g hg).1
  done := by
    rintro X rfl rfl rfl calm i pins s σ H E I own ⟨hz, hTI, ⟨p0, q0, r0, hTO⟩, e1, e2, e3⟩ ⟨xs, ys, us, hqx, hqy, hqu, hi⟩
    obtain ⟨its1, rv1, tp1, _⟩ := I.tuple hqx
    obtain ⟨its2, rv2, tp2, _⟩ := I.tuple hqy
    obtain ⟨its3, rv3, tp3, _⟩ := I.tuple hqu
    have n1 := rv1.length
    have n2 := rv2.length
    have n3 := rv3.length
    have z1 : its1.toArray.size = xs.length := by simp [n1]
    have z2 : its2.toArray.size = ys.length := by simp [n2]
    have z3 : its3.toArray.size = us.length := by simp [n3]
    exact wpAny_pyNext_zipD3_end D (Draws.tuple (A := X.A.in1) (I.ok.hd calm) i1 a (ne_iterT e1 tp1) its1.toArray) (Draws.tuple (A := X.A.in1) (I.ok.hd calm) i2 b (ne_iterT e2 tp2) its2.toArray) (Draws.tuple (A := X.A.in1) (I.ok.hd calm) i3 c (ne_iterT e3 tp3) its3.toArray)
      hz hTI hTO ⟨e1, tp1⟩ ⟨e2, tp2⟩ ⟨e3, tp3⟩ (by omega) (by omega) (by omega) (by omega) fun h' tk kept => ⟨rfl, I.turnedL (t' := tk) (ch := [z, TI, TO, i1, i2, i3]) (fun g o hb t => kept g o (fun q => hb (by simp [q])) (fun q => hb (by simp [q])) (fun q => hb (by simp [q])) (fun q => hb (by simp [q])) (fun q => hb (by simp [q])) t) own⟩
  self A i s Q E st q := wpAny_pyIter_zip st.1 q

def iZip3T (K : PySem.W.Frag) (ta : TA) : TI := fun σ H R => ta σ H fun vs H1 => ∃ a b c xs ys us, vs = [.ref a, .ref b, .ref c] ∧ SqT K H1 a xs ∧ SqT K H1 b ys ∧ SqT K H1 c us ∧ R (Itz3 K a b c) H1
theorem pi_zip3T {X : Cx} {e e2 e3 : Expr} {ta : TA} {p pos tpos : Pos} {elts : List Expr} {kk : Nat} (hg : Gl X "zip") (hm : X.mg "zip" = none) (ha : PA X [e, e2, e3] ta)
    (hs : starEach [e, e2, e3] X.env = (false, eval e X.env) :: starEach [e2, e3] X.env := by rfl) (hpl : (backTo pos (starEach [e2, e3] X.env)).any (·.1) = false := by rfl) :
    PI X (.Tuple elts kk tpos) (.Call (.Name "zip" p) [e, e2, e3] [] pos) (iZip3T X.K ta) := by
  refine ⟨fun pins s σ H R I h => ?_⟩
  refine PyProof.Rows.Call_ (ld_blt I hg hm bt_zip (PyProof.Rows.callWith_type1 (thn (ha.run pos pins s σ H _ I h) ?_) hs hpl))
  rintro us0 s1 ⟨vs, H1, I1, r1, a, b, c, xs, ys, us, rfl, hqx, hqy, hqu, q⟩
  cases r1 with
  | cons ra rr =>
    cases rr with
    | cons rb rr =>
      cases rr with
      | cons rc rr =>
        cases rr
        cases ra
        cases rb
        cases rc
        obtain ⟨its1, rv1, tp1, _⟩ := I1.tuple hqx
        obtain ⟨its2, rv2, tp2, _⟩ := I1.tuple hqy
        obtain ⟨its3, rv3, tp3, _⟩ := I1.tuple hqu
        have lt : ∀ {g : Addr} {its : Array Value}, s1.heap.IsTuple g its → g < s1.heap.objs.size := fun tp => tp.elim fun o q => Heap.lt_size q.1
        refine zip_begins3 (begins_tuple a its1.toArray) (begins_tuple b its2.toArray) (begins_tuple c its3.toArray) tp1 tp2 tp3 fun h' hz hTI hTO g1 g2 g3 sz kept => wpAny_pyIter_zip hz ?_
        have I2 : Inv X pins σ H1 { s1 with heap := h' } := I1.kept (t' := s1.toks) kept
        refine ⟨s1.heap.objs.size + 5, [s1.heap.objs.size + 5, s1.heap.objs.size + 3, s1.heap.objs.size + 4, s1.heap.objs.size, s1.heap.objs.size + 1, s1.heap.objs.size + 2], _, _, H1, rfl, I2,
          turn_zip3 (zip_sep3 (N := s1.heap.objs.size) (fp1 := [a]) (fp2 := [b]) (fp3 := [c]) (fun g hg => by rw [List.mem_singleton.mp hg]; exact lt tp1) (fun g hg => by rw [List.mem_singleton.mp hg]; exact lt tp2) (fun g hg => by rw [List.mem_singleton.mp hg]; exact lt tp3)),
          ⟨hz, hTI, ⟨_, _, _, hTO⟩, ⟨_, g1, rfl, rfl⟩, ⟨_, g2, rfl, rfl⟩, ⟨_, g3, rfl, rfl⟩⟩, fun g hg => ?_, q⟩
        have le : s1.heap.objs.size ≤ g := by
          have cs : g = s1.heap.objs.size + 5 ∨ g = s1.heap.objs.size + 3 ∨ g = s1.heap.objs.size + 4 ∨ g = s1.heap.objs.size ∨ g = s1.heap.objs.size + 1 ∨ g = s1.heap.objs.size + 2 := by simpa using hg
          have cs : ∃ j : Nat, g = s1.heap.objs.size + j := by
            rcases cs with t | t | t | t | t | t
            · exact ⟨5, t⟩
            · exact ⟨3, t⟩
            · exact ⟨4, t⟩
            · exact ⟨0, t⟩
            · exact ⟨1, t⟩
            · exact ⟨2, t⟩
          obtain ⟨j, rfl⟩ := cs
          exact Nat.le_add_right _ _
        exact I1.fpOk le (I1.hok.fresh le)

def zip3D : List PyData → List PyData → List PyData → List PyData
  | a :: as, b :: bs, c :: cs => .tuple [a, b, c] :: zip3D as bs cs
  | _, _, _ => []
theorem zip3D_len : ∀ (as bs cs : List PyData), (zip3D as bs cs).length = min (min as.length bs.length) cs.length
  | [], _, _ => by simp [zip3D]
  | _ :: _, [], _ => by simp [zip3D]
  | _ :: _, _ :: _, [] => by simp [zip3D]
  | a :: as, b :: bs, c :: cs => by
    have := zip3D_len as bs cs
    simp only [zip3D, List.length_cons, this]; omega
theorem zip3D_get : ∀ (as bs cs : List PyData) (i : Nat) (d : PyData), (zip3D as bs cs)[i]? = some d → ∃ x y z, as[i]? = some x ∧ bs[i]? = some y ∧ cs[i]? = some z ∧ d = .tuple [x, y, z]
  | [], _, _, i, d, h => by simp [zip3D] at h
  | _ :: _, [], _, i, d, h => by simp [zip3D] at h
  | _ :: _, _ :: _, [], i, d, h => by simp [zip3D] at h
  | a :: as, b :: bs, c :: cs, 0, d, h => by simp [zip3D] at h; exact ⟨a, b, c, rfl, rfl, rfl, h.symm⟩
  | a :: as, b :: bs, c :: cs, i + 1, d, h => by
    obtain ⟨x, y, z, h1, h2, h3, h4⟩ := zip3D_get as bs cs i d (by simpa [zip3D] using h)
    exact ⟨x, y, z, by simpa using h1, by simpa using h2, by simpa using h3, h4⟩
section
variable {K : PySem.W.Frag} {G H : Hp} {m : List Ty} {σ : St} {e : En} {A : List Addr}
theorem triple_new {p : Addr} {x y z : V} {dx dy dz : PyData} (st : Stt K m G H σ e A) (hp : H p = none) (hx : Dq K G x dx) (hy : Dq K G y dy) (hz : Dq K G z dz) :
    ∃ G', Step A G H A G' (upd H p (.tup [x, y, z])) ∧ Stt K m G' (upd H p (.tup [x, y, z])) σ e A ∧ Same G G' ∧ DqW true K G' (.ref p) (.tuple [dx, dy, dz]) := by
  obtain ⟨s1, st1, sg⟩ := new_s (o := .tup [x, y, z]) st hp
  have q : DqA K (upd G p (.tup [x, y, z])) [x, y, z] [dx, dy, dz] := DqA.cons (hx.mono sg) (DqA.cons (hy.mono sg) (DqA.cons (hz.mono sg) DqA.nil))
  exact ⟨_, s1, st1, sg, .inr ⟨rfl, p, _, _, rfl, rfl, SqT.of upd_same, q⟩⟩
theorem walkD_zip3 {a b c : Addr} {xs ys us : List V} {ds es fs : List PyData} (hr : SqT K G a xs) (q : DqA K G xs ds) (hr2 : SqT K G b ys) (q2 : DqA K G ys es) (hr3 : SqT K G c us) (q3 : DqA K G us fs) : WalkD K true G (Itz3 K a b c) (zip3D ds es fs) := by
  have l := q.1
  have l2 := q2.1
  have l3 := q3.1
  refine ⟨fun i H hi s => ?_, fun H s => ⟨xs, ys, us, same_seqT s hr, same_seqT s hr2, same_seqT s hr3, by rw [zip3D_len]; omega⟩, fun {i H x H' m G' σ e A} hi s st y => ?_⟩
  · rw [zip3D_len] at hi
    exact ⟨xs, ys, us, xs[i]'(by omega), ys[i]'(by omega), us[i]'(by omega), same_seqT s hr, same_seqT s hr2, same_seqT s hr3, List.getElem?_eq_getElem (by omega), List.getElem?_eq_getElem (by omega), List.getElem?_eq_getElem (by omega)⟩
  · obtain ⟨T, z, z2, z3, rfl, hT, rfl, hz, hz2, hz3⟩ := y
    have hx := hz xs (same_seqT (s.trans st.sub) hr)
    have hy := hz2 ys (same_seqT (s.trans st.sub) hr2)
    have hu := hz3 us (same_seqT (s.trans st.sub) hr3)
    obtain ⟨d, hd⟩ : ∃ d, (zip3D ds es fs)[i]? = some d := ⟨_, List.getElem?_eq_getElem hi⟩
    obtain ⟨dx, dy, dz, h1, h2, h3, rfl⟩ := zip3D_get _ _ _ _ _ hd
    obtain ⟨G2, s2, st2, sg2, q4⟩ := triple_new st hT ((q.2 i z _ hx h1).mono s) ((q2.2 i z2 _ hy h2).mono s) ((q3.2 i z3 _ hu h3).mono s)
    exact ⟨G2, s2, st2, sg2, fun d' hd' => by rw [hd] at hd'; cases hd'; exact q4⟩
end
def zip3S : PyData → PyData → PyData → Option (List PyData)
  | .tuple xs, .tuple ys, .tuple us => some (zip3D xs ys us)
  | _, _, _ => none
def iZp3 (f g h : Ef) : Lf := fun e => (f e).bind fun p => (g p.2).bind fun q => (h q.2).bind fun r => (zip3S p.1 q.1 r.1).bind fun ds => some (ds, r.2)
section
variable {ι : Type} {Xf : ι → Cx} {P : Program} {w : World} {K : PySem.W.Frag} {mg : Str → Option Value} {base : Heap} {n : Nat} [F : Fam Xf P w K mg base n]
variable {m m1 m2 m3 : List Ty} {pos p p2 tpos : Pos} {a b c tg : Expr} {elts : List Expr} {kk : Nat} {f g h : Ef}
include F
theorem pi_zp3 (hm : mg "zip" = none) (ha : PD Xf K m a .s f m1) (hb : PD Xf K m1 b .s g m2) (hc : PD Xf K m2 c .s h m3) (hg : ∀ i, Gl (Xf i) "zip" := by intro _; rfl) (hs : ∀ i, starEach [a, b, c] (Xf i).env = (false, eval a (Xf i).env) :: starEach [b, c] (Xf i).env := by intro _; rfl)
    (hs2 : ∀ i, starEach [b, c] (Xf i).env = (false, eval b (Xf i).env) :: starEach [c] (Xf i).env := by intro _; rfl) (hs3 : ∀ i, starEach [c] (Xf i).env = (false, eval c (Xf i).env) :: starEach [] (Xf i).env := by intro _; rfl)
    (hpl : ∀ i, (backTo pos (starEach [b, c] (Xf i).env)).any (·.1) = false := by intro _; rfl) : PIt Xf K true m (.Tuple elts kk tpos) (.Call (.Name "zip" p) [a, b, c] [] pos) (iZp3 f g h) m3 := by
  obtain ⟨ta, pa, da⟩ := ha.ex
  obtain ⟨tb, pb, db⟩ := hb.ex
  obtain ⟨tc, pc, dc⟩ := hc.ex
  refine ⟨iZip3T K (tCons ta (tCons tb (tCons tc tNil))), fun i => (by have := pi_zip3T (elts := elts) (kk := kk) (tpos := tpos) (p := p) (pos := pos) (hg i) (by rw [F.mg_ i]; exact hm) (pa_cons (pa i) (pa_cons (pb i) (pa_cons (pc i) pa_nil (hs3 i)) (hs2 i)) (hs i)) (hs i) (hpl i); rw [F.kk i] at this; exact this), fun {G H σ e A ds e' R} st hf k => ?_⟩
  unfold iZp3 at hf
  obtain ⟨⟨d1, e1⟩, hf1, hf⟩ := Option.bind_eq_some_iff.mp hf
  obtain ⟨⟨d2, e2⟩, hf2, hf⟩ := Option.bind_eq_some_iff.mp hf
  obtain ⟨⟨d3, e3⟩, hf3, hf⟩ := Option.bind_eq_some_iff.mp hf
  obtain ⟨ds1, hf4, hf⟩ := Option.bind_eq_some_iff.mp hf
  cases hf
  refine da st hf1 fun G1 H1 v1 A1 B1 s1 st1 o1 nd1 => ?_
  cases o1 with
  | s q1 =>
    refine db st1 hf2 fun G2 H2 v2 A2 B2 s2 st2 o2 nd2 => ?_
    cases o2 with
    | s q2 =>
      refine dc st2 hf3 fun G3 H3 v3 A3 B3 s3 st3 o3 nd3 => ?_
      cases o3 with
      | s q3 =>
        have q1' := q1.mono (s2.sg.trans s3.sg)
        have q2' := q2.mono s3.sg
        have hf4 : zip3S d1 d2 d3 = some ds := hf4
        unfold zip3S at hf4
        split at hf4
        · cases hf4
          obtain ⟨a, xs, rfl, r1, z1, w1⟩ := dq_tup q1'
          obtain ⟨b, ys, rfl, r2, z2, w2⟩ := dq_tup q2'
          obtain ⟨c, us, rfl, r3, z3, w3⟩ := dq_tup q3
          refine ⟨a, b, c, xs, ys, us, rfl, same_seqT st3.sub r1, same_seqT st3.sub r2, same_seqT st3.sub r3, k _ _ _ _ ((s1.seq0 s2).seq0 s3) st3 (walkD_zip3 r1 w1 r2 w2 r3 w3) ?_⟩
          rw [zip3D_len]; have := w1.1; omega
        · cases hf4
end
@[simp] theorem riZp3 {f g h : Ef} {e : En} : iZp3 f g h e = (f e).bind fun p => (g p.2).bind fun q => (h q.2).bind fun r => (zip3S p.1 q.1 r.1).bind fun ds => some (ds, r.2) := rfl
@[simp] theorem xZip3 {xs ys us : List PyData} : zip3S (.tuple xs) (.tuple ys) (.tuple us) = some (zip3D xs ys us) := rfl
end DL

namespace DL
open PySem L2 PySem.Spec

/-! ### x[::2] -/
def evens {α : Type} : List α → List α
  | [] => []
  | [a] => [a]
  | a :: _ :: r => a :: evens r
theorem evens_len {α : Type} : ∀ l : List α, (evens l).length = (l.length + 1) / 2
  | [] => by simp [evens]
  | [a] => by simp [evens]
  | a :: b :: r => by
    have := evens_len r
    simp only [evens, List.length_cons, this]; omega
theorem evens_get {α : Type} : ∀ (l : List α) (i : Nat), (evens l)[i]? = l[2 * i]?
  | [], i => by simp [evens]
  | [a], 0 => by simp [evens]
  | [a], i + 1 => by
    rw [List.getElem?_eq_none (by simp [evens]), List.getElem?_eq_none (by simp; omega)]
  | a :: b :: r, 0 => by simp [evens]
  | a :: b :: r, i + 1 => by
    have := evens_get r i
    rw [evens, List.getElem?_cons_succ, this, show 2 * (i + 1) = 2 * i + 1 + 1 by omega, List.getElem?_cons_succ, List.getElem?_cons_succ]
section
open PyProof.Rows PySem.SeqAt PySem.MeetsSeq PySem.MeetsSeq2 PySem.MeetsSeq3 HT
variable {prog : Program} {w : World} {A : Around} {E : Value → Shared → Prop} {s : Shared}
theorem two_parts {sl : Addr} {n : Nat} {u : Tok} {Q : Int × Int × Nat → Shared → Prop} (hs : s.heap.IsSliceOf sl .none .none (.int 2 u)) (h : Q ((0 : Int), 2, (n + 1) / 2) s) : wpAny (model prog w) A (Builtin.Slice.sliceApplied (.ref sl) (pure (n : Int))) Q E s := by
  obtain ⟨ob, ho, _, hd⟩ := id hs
  unfold Builtin.Slice.sliceApplied Builtin.Slice.sliceFields
  refine wpAny_bind (wpAny_bind (wpAny_field ho hd (x := .none) rfl (wpAny_bind (wpAny_field ho hd (x := .none) rfl (wpAny_bind (wpAny_field ho hd (x := .int 2 u) rfl (wpAny_pure ?_)))))))
  refine wpAny_bind (slicePart_int ?_)
  show wpAny _ _ (if ((2 : Int) == 0) = true then _ else _) _ _ s
  rw [if_neg (by decide)]
  refine wpAny_bind (slicePart_none (wpAny_bind (slicePart_none (wpAny_bind (wpAny_pure ?_)))))
  have e : Builtin.Slice.slicePlaces (0 : Int) (n : Int) 2 = (n + 1) / 2 := by
    unfold Builtin.Slice.slicePlaces
    rw [if_pos (by decide)]
    split <;> omega
  show wpAny _ _ (pure ((0 : Int), (2 : Int), Builtin.Slice.slicePlaces (0 : Int) (n : Int) 2)) _ _ s
  rw [e]
  exact wpAny_pure h
theorem two_pick (xs : Array Value) : ((List.range ((xs.size + 1) / 2)).filterMap fun (k : Nat) => xs[((0 : Int) + (k : Int) * 2).toNat]?).toArray = (evens xs.toList).toArray := by
  have e : (List.range ((xs.size + 1) / 2)).filterMap (fun (k : Nat) => xs[((0 : Int) + (k : Int) * 2).toNat]?) = (List.range ((xs.size + 1) / 2)).map fun k => (evens xs.toList).getD k Value.none := by
    refine fm_some fun k hk => ?_
    have hk := List.mem_range.mp hk
    have i1 : ((0 : Int) + (k : Int) * 2).toNat = 2 * k := by omega
    have key : xs.toList[2 * k]? = xs[2 * k]? := by simp
    rw [i1, List.getD_eq_getElem?_getD, evens_get, key, Array.getElem?_eq_getElem (by omega)]
    rfl
  rw [e]
  congr 1
  have hn : (evens xs.toList).length = (xs.size + 1) / 2 := by rw [evens_len, Array.length_toList]
  apply List.ext_getElem?
  intro k
  by_cases hk : k < (xs.size + 1) / 2
  · rw [List.getElem?_map, List.getElem?_range hk, List.getElem?_eq_getElem (by rw [hn]; exact hk)]
    simp [List.getD_eq_getElem?_getD, List.getElem?_eq_getElem (show k < (evens xs.toList).length by rw [hn]; exact hk)]
  · rw [List.getElem?_eq_none (by simp; omega), List.getElem?_eq_none (by omega)]
theorem getItem_two {t sl : Addr} {items : Array Value} {u : Tok} {Q : Value → Shared → Prop} (ht : IsTup s.heap t items) (hs : s.heap.IsSliceOf sl .none .none (.int 2 u)) (hsz : items.size ≤ sizeLine)
    (h : Q (.ref s.heap.objs.size) { s with heap := s.heap.push { cls := .type "tuple", data := .seq (evens items.toList).toArray } }) : wpAny (model prog w) A (getItem (.ref t) (.ref sl)) Q E s := by
  have ok : sizeOk (.seq (evens items.toList).toArray) := by
    show (evens items.toList).toArray.size ≤ sizeLine
    rw [List.size_toArray, evens_len, Array.length_toList]; omega
  obtain ⟨ob, ho, hc, _⟩ := id hs
  have hT : s.TypeIs (.ref sl) "slice" := ⟨ob, ho, hc⟩
  unfold getItem
  try with_reducible refine wpAny_holding ?_
  first | refine wpAny_bind (wpAny_pure ?_) | skip
  refine wpAny_bind (wpAny_sequenceKey ht.typeIs (by decide) ?_)
  refine wpAny_bind (wpAny_callSpecial?_slot (name := Str.ofString "__getitem__") ht.typeIs PyProof.Rows.slot_tuple_getitem (wpAny_call_entry PyProof.Rows.slot_tuple_getitem ht.typeIs entry_tuple_getitem ?_ (args_tuple_getitem _ _)))
  show wpAny _ _ (Builtin.Tuple.tupleItemsOf (.ref t) >>= _) _ _ s
  refine wpAny_bind (tupleItemsOf_ ht (wpAny_bind (wpAny_typeOf hT ?_)))
  rw [if_pos (by decide)]
  refine wpAny_bind (two_parts hs ?_)
  show wpAny _ _ (if ((0 : Int) == 0 && (2 : Int) == 1 && ((items.size + 1) / 2) == items.size) = true then _ else _) _ _ s
  rw [if_neg (by simp), two_pick]
  first
    | exact wpAny_bind (m := Builtin.Tuple.tupleExact _) (wpAny_newObj_type (wpAny_pure ⟨_, rfl, wpAny_pure h⟩) ok)
    | exact wpAny_bind (m := Builtin.Tuple.tupleExact _) (wpAny_newObj_type (wpAny_bind (wpAny_pure (wpAny_pure ⟨_, rfl, wpAny_pure h⟩))) ok)
    | exact wpAny_bind (wpAny_bind (m := Builtin.Tuple.tupleExact _) (wpAny_newObj_type (wpAny_pure (wpAny_pure ⟨_, rfl, wpAny_pure h⟩)) ok))
    | exact wpAny_bind (wpAny_bind (m := Builtin.Tuple.tupleExact _) (wpAny_newObj_type (wpAny_pure ⟨_, rfl, wpAny_pure h⟩) ok))
end
theorem vals_evens : ∀ {xs : List V} {us : List Value}, Vals xs us → Vals (evens xs) (evens us)
  | _, _, .nil => .nil
  | _, _, .cons r .nil => .cons r .nil
  | _, _, .cons r (.cons _ t) => .cons r (vals_evens t)
def tTwo (K : PySem.W.Frag) (te : TE) : TE := fun σ H Q => te σ H fun x H1 => ∃ a xs, x = .ref a ∧ SqT K H1 a xs ∧ NewT H1 (evens xs) Q
section
open PyProof.Rows
theorem pe_two {X : Cx} {e : Expr} {te : TE} {k : Nat} {p1 p3 pos : Pos} (he : PE X e te) : PE X (.Subscript e (.Slice none none (some (.Constant (.int 2) k p1)) p3) pos) (tTwo X.K te) := by
  refine ⟨fun pins s σ H Q I h => Subscript_ (thn (he.run pins s σ H _ I h) fun v s1 ⟨x, H1, I1, r1, a, xs, ex, hq, q⟩ => ?_)⟩
  subst ex
  cases r1
  have two : PO X (some (.Constant (.int 2) k p1)) (tPart (tC (.int 2))) := po_some pe_int
  refine wpAny_Slice (thn (po_none.run pins s1 σ H1 (fun o H2 => o = none ∧ H2 = H1) I1 ⟨rfl, rfl⟩) fun vl s2 ⟨_, _, I2, pl, el, e2⟩ => ?_)
  subst el; subst e2
  refine thn (po_none.run pins s2 σ _ (fun o H3 => o = none ∧ H3 = _) I2 ⟨rfl, rfl⟩) fun vu s3 ⟨_, _, I3, pu, eu, e3⟩ => ?_
  subst eu; subst e3
  refine thn (two.run pins s3 σ _ (fun o H4 => o = some 2 ∧ H4 = _) I3 ⟨2, rfl, rfl, rfl⟩) fun vs s4 ⟨_, _, I4, ps, eo, e4⟩ => ?_
  subst eo; subst e4
  cases pl; cases pu
  cases ps with
  | int _ t =>
    have I5 := I4.kept (t' := s4.toks) (h' := s4.heap.push { cls := .type "slice", data := .fields #[.none, .none, .int 2 t] }) fun b ob q => Heap.get?_push_of_some _ q
    obtain ⟨its, r, ht, hz⟩ := I5.tuple hq
    have hl := r.length
    refine tail_any (ops := [.ref a, .ref s4.heap.objs.size]) ht.typeIs PyProof.Rows.slot_tuple_getitem.lookup ?_ (by with_unfolding_all rfl)
    have hx := newT_ep I5 (vals_evens r) (by rw [evens_len]; omega) q
    refine getItem_two ht (Heap.IsSliceOf.new _ .none .none _) (by rw [List.size_toArray]; omega) ?_
    simpa using hx
end
def gTwo : PyData → Option PyData
  | .tuple xs => some (.tuple (evens xs))
  | _ => none
section
variable {ι : Type} {Xf : ι → Cx} {P : Program} {w : World} {K : PySem.W.Frag} {mg : Str → Option Value} {base : Heap} {n : Nat} [F : Fam Xf P w K mg base n]
variable {m m1 : List Ty} {a : Expr} {ef : Ef} {k : Nat} {p1 p3 pos : Pos}
theorem DqA.evn {G : Hp} {xs : List V} {ds : List PyData} (q : DqA K G xs ds) : DqA K G (evens xs) (evens ds) := by
  refine ⟨by rw [evens_len, evens_len, q.1], fun i v d h1 h2 => ?_⟩
  rw [evens_get] at h1 h2
  exact q.2 _ v d h1 h2
include F in
theorem pd_two (ha : PD Xf K m a .s ef m1) : PD Xf K m (.Subscript a (.Slice none none (some (.Constant (.int 2) k p1)) p3) pos) .s (e1 gTwo ef) m1 := by
  obtain ⟨ta, pa, da⟩ := ha.ex
  refine ⟨_, fun i => by have := pe_two (k := k) (p1 := p1) (p3 := p3) (pos := pos) (pa i); rw [F.kk i] at this; exact this, fun {G H σ e A d e' Q} st hf kk => ?_⟩
  unfold e1 at hf
  obtain ⟨⟨d1, e1⟩, hf1, hf⟩ := Option.bind_eq_some_iff.mp hf
  obtain ⟨d2, hf2, hf⟩ := Option.bind_eq_some_iff.mp hf
  cases hf
  refine da st hf1 fun G1 H1 v1 A1 B1 s1 st1 o1 nd1 => ?_
  cases o1 with
  | s q1 =>
    cases d1 with
    | tuple ds =>
      cases hf2
      obtain ⟨b, xs, rfl, r1, z1, qq⟩ := dq_tup q1
      refine ⟨b, xs, rfl, same_seqT st1.sub r1, ?_⟩
      exact ans_tup st1 qq.evn (by rw [evens_len]; omega) fun G2 H2 v Av A2 s2 => kk G2 H2 v Av A2 (s1.seq0 s2)
    | _ => cases hf2
end
@[simp] theorem xTwo {xs : List PyData} : gTwo (.tuple xs) = some (.tuple (evens xs)) := rfl
end DL

namespace DL
open PySem L2 PySem.Spec

section
variable {K : PySem.W.Frag} {M : Mk} {G H G1 H1 : Hp} {m m1 m2 mn : List Ty} {σ σ1 : St} {e : En} {A A1 : List Addr} {D : Ends} {e' : En} {o : Out} {t u : TS} {f g : Sf} {ef : Ef} {bf : Bf} {lf : Lf}
/-- a, b, c = x, y, z; the third is owned and moved -/
theorem DS.par3L {ta : TA} {i j l : Nat} {t3 : Ty} (ha : DA K m ta [.s, .s, t3] lf m1) (hi : i < m1.length) (hj : j < m1.length) (hl : l < m1.length) (pi : i ∉ M.po) (pj : j ∉ M.po) (pl : l ∉ M.po) : DS K M m (tPar3 i j l ta) (sPar3 i j l lf) (((m1.set i .s).set j .s).set l t3) := by
  intro G H σ e A o e' D st hf k
  obtain ⟨⟨ds, e1⟩, hf1, hf⟩ := Option.bind_eq_some_iff.mp hf
  refine ha st hf1 fun G1 H1 vs Av A1 s1 st1 o1 nd1 => ?_
  match vs, ds, hf, o1 with
  | [v, w, u], [x, y, z], hf, o1 =>
    cases hf
    cases o1 with
    | @cons _ _ _ _ _ _ A2 A3 p1 p2 =>
      cases p2 with
      | @cons _ _ _ _ _ _ A4 A5 p3 p4 =>
        cases p4 with
        | @cons _ _ _ _ _ _ A6 A7 p5 p6 =>
          cases p6
          cases p1 with
          | s q1 =>
            cases p3 with
            | s q3 =>
              simp only [List.nil_append, List.append_nil] at nd1 s1
              have n1 := List.nodup_append.mp nd1
              obtain ⟨B2, st2, hB2⟩ := stt_set st1 hi (.s q1) (Av := []) st1.nd
              obtain ⟨B3, st3, hB3⟩ := stt_set st2 (by rw [List.length_set]; exact hj) (.s q3) (Av := []) st2.nd
              obtain ⟨B4, st4, hB4⟩ := stt_set st3 (by rw [List.length_set, List.length_set]; exact hl) p5 (List.nodup_append.mpr ⟨n1.1, st3.nd, fun a ha b hb q => n1.2.2 a ha b (hB2 b (hB3 b hb)) q⟩)
              refine ⟨v, w, u, rfl, k G1 H1 _ B4 (s1.less fun a h => ?_) st4 (((Pin.set pi).trans (Pin.set pj)).trans (Pin.set pl))⟩
              rcases List.mem_append.mp (hB4 a h) with q | q
              · exact List.mem_append_left _ q
              · exact List.mem_append_right _ (hB2 a (hB3 a q))
  | [_], _, _, o1 => cases o1 with | cons _ p => cases p
  | [_, _], _, _, o1 => cases o1 with | cons _ p => cases p with | cons _ p => cases p
  | [], _, _, o1 => cases o1
  | _ :: _ :: _ :: _ :: _, _, _, o1 => cases o1 with | cons _ p => cases p with | cons _ p => cases p with | cons _ p => cases p
end
section
variable {ι : Type} {Xf : ι → Cx} {P : Program} {w : World} {K : PySem.W.Frag} {mg : Str → Option Value} {base : Heap} {n : Nat} [F : Fam Xf P w K mg base n]
variable {M : Mk} {m m1 m2 mn ml : List Ty} {pos p p2 spos xp : Pos} {a b c v tg iter : Expr} {st : Stmt} {rest body orelse : List Stmt} {f g : Sf} {ef eg : Ef} {bf : Bf} {lf : Lf} {gf : Gf} {sl : List Nat} {ty t1 t2 t3 : Ty}
include F in
theorem ds_par3T [FG : FamG Xf] (i j l : Nat) {L : List (Option Nat)} {x y z : Str} {px py pz pt pt2 : Pos} {kt k2} (ha : PAL Xf K m [a, b, c] [.s, .s, t3] L lf m1) (hi : i < m1.length := by decide) (hj : j < m1.length := by decide) (hl : l < m1.length := by decide) (pi : i ∉ M.po := by decide) (pj : j ∉ M.po := by decide) (pl : l ∉ M.po := by decide) (hij : i ≠ j := by decide) (hil : i ≠ l := by decide) (hjl : j ≠ l := by decide)
    (ni : ∀ q, (Xf q).N[i]? = some x := by intro _; rfl) (nj : ∀ q, (Xf q).N[j]? = some y := by intro _; rfl) (nl : ∀ q, (Xf q).N[l]? = some z := by intro _; rfl) (hx : ∀ q, (Xf q).env.scope.names.lookup x = some .local := by intro _; rfl) (hy : ∀ q, (Xf q).env.scope.names.lookup y = some .local := by intro _; rfl) (hz : ∀ q, (Xf q).env.scope.names.lookup z = some .local := by intro _; rfl)
    (hw : ∀ q, swappedStores [.Tuple [.Name x px, .Name y py, .Name z pz] kt pt] (.Tuple [a, b, c] k2 pt2) (Xf q).env = pure (some [x, y, z]) := by intro _; rfl) (hs : ∀ q, swapsWithSole [.Tuple [.Name x px, .Name y py, .Name z pz] kt pt] (.Tuple [a, b, c] k2 pt2) pos.line (Xf q).env = pure false := by intro _; rfl) :
    PSd Xf K M m (.Assign [.Tuple [.Name x px, .Name y py, .Name z pz] kt pt] (.Tuple [a, b, c] k2 pt2) pos) (sPar3 i j l lf) (((m1.set i .s).set j .s).set l t3) := by
  obtain ⟨t, p, d⟩ := ha.ex
  exact ⟨_, fun q => ps_par3 (FG.calm q) (F.nd q) (ni q) (nj q) (nl q) hij hil hjl (hx q) (hy q) (hz q) (p q) (hw q) (hs q), DS.par3L (fun st hf k => d st hf fun G' H' vs Av A' s st' o nd _ => k G' H' vs Av A' s st' o nd) hi hj hl pi pj pl⟩
end
end DL

namespace DL
open PySem L2 PySem.Spec

/-! ### a, b, .. = a list -/
def gTpL (k : Nat) (r : Gsf) : Gf := fun d e => match d with | .list ds => if ds.length = k then r ds e else none | _ => none
section
variable {ι : Type} {Xf : ι → Cx} {P : Program} {w : World} {K : PySem.W.Frag} {mg : Str → Option Value} {base : Heap} {n : Nat} [F : Fam Xf P w K mg base n]
variable {m m1 : List Ty} {tpos : Pos} {elts : List Expr} {sl : List Nat} {gs : Gsf}
include F in
theorem pg_tpL {k : Nat} (h : PGDs Xf K m elts sl gs m1) (hk : elts.length = k := by rfl) {kk : Nat} (hpg : ∀ i {t : TGs}, PGs (Xf i) elts t → PG (Xf i) (.Tuple elts kk tpos) (gUnl (Xf i).K k t) := by intro i t h; exact pg_unl (by rfl) h) : PGD Xf K false m (.Tuple elts kk tpos) sl (gTpL k gs) m1 := by
  obtain ⟨g, p, d⟩ := h.ex
  refine ⟨gUnl K k g, fun i => by have := hpg i (p i); rw [F.kk i] at this; exact this, fun {G H σ e A x dd e' Q} st q hf kont => ?_⟩
  cases dd with
  | list ds =>
    have hf : (if ds.length = k then gs ds e else none) = some e' := hf
    split at hf
    · rename_i hl
      obtain ⟨a, xs, rfl, r1, z1, qq⟩ := dq_lst q.strong
      exact ⟨a, xs, rfl, .inl (same_rd st.sub r1), by rw [qq.1]; exact hl, d st qq hf kont⟩
    · cases hf
  | _ => cases hf
end
def un2L : PyData → Option (PyData × PyData)
  | .list [a, b] => some (a, b)
  | _ => none
@[simp] theorem un2L_ok {x y : PyData} : un2L (.list [x, y]) = some (x, y) := rfl
@[simp] theorem rgTpL2 {gf gf2 : Gf} {d : PyData} {e : En} : gTpL 2 (gsCons gf (gsCons gf2 gsNil)) d e = (un2L d).bind fun p => (gf p.1 e).bind fun e => gf2 p.2 e := by
  unfold gTpL un2L
  cases d with
  | list ds =>
    match ds with
    | [] => rfl
    | [a] => rfl
    | [a, b] =>
      show ((gf a e).bind fun e => (gf2 b e).bind fun e => some e) = (gf a e).bind fun e => gf2 b e
      congr 1; funext e1
      cases gf2 b e1 <;> rfl
    | _ :: _ :: _ :: _ => rfl
  | _ => rfl
end DL

namespace DL
open PySem L2 PySem.Spec

/-! ### script[:c] -/
section
variable {ι : Type} {Xf : ι → Cx} {P : Program} {w : World} {K : PySem.W.Frag} {mg : Str → Option Value} {base : Heap} {n : Nat} [F : Fam Xf P w K mg base n]
variable {m : List Ty} {pos p p1 p2 : Pos}
include F in
theorem pd_slQ (j : Nat) {x : Str} {c : Int} {k : Nat} (hm : m[j]? = some .q := by rfl) (hN : ∀ i, (Xf i).N[j]? = some x := by intro _; rfl)
    (hv : ∀ i, Vis (Xf i).env.scope x := by first | (intro _; exact Or.inl rfl) | (intro _; exact Or.inr (Or.inl rfl)) | (intro _; exact Or.inr (Or.inr rfl))) (hd : (x == ("__debug__" : Str)) = false := by decide)
    (hcd : (x == ("__classdict__" : Str)) = false := by decide) : PD Xf K m (.Subscript (.Name x p) (.Slice none (some (.Constant (.int c) k p1)) none p2) pos) (.l .s) (eSlQ j none (some c)) m := by
  refine ⟨_, fun i => pe_slice (kkSl (fun X => sl_list) i) (pe_var (X := Xf i) (pos := p) (hN i) (hv i) hd hcd) po_none (po_some pe_int), fun {G H σ e A d e' Q} st hf kk => ?_⟩
  obtain ⟨d', v, Aj, A0, h1, h2, h3, _, _⟩ := ownA_take st.own hm
  obtain ⟨_, a, ns, rfl, rfl, hq, hz⟩ := own_q h3
  unfold eSlQ at hf
  rw [List.getD_eq_getElem?_getD, h1] at hf
  cases hf
  have q1 := dqA_nums (K := K) (G := G) ns
  exact ⟨.ref a, h2, c, rfl, a, _, rfl, same_seqL st.sub hq, ans_lst st (cut_dq q1 _ _) (Nat.le_trans (cutV_length _ _ _) (by rw [List.length_map]; exact hz)) kk⟩
end
end DL

namespace DL
open PySem L2 PySem.Spec

/-! ### {a: b, c: d}, int keys, owned -/
def gDisp2 (k1 v1 k2 v2 : PyData) : Option PyData := match k1, k2 with
  | .int i, .int j => some (.dict (putD (putD [] i v1) j v2))
  | _, _ => none
def eDisp2 (f1 f2 f3 f4 : Ef) : Ef := fun e => (f1 e).bind fun p1 => (f2 p1.2).bind fun p2 => (f3 p2.2).bind fun p3 => (f4 p3.2).bind fun p4 => (gDisp2 p1.1 p2.1 p3.1 p4.1).bind fun d => some (d, p4.2)
section
variable {ι : Type} {Xf : ι → Cx} {P : Program} {w : World} {K : PySem.W.Frag} {mg : Str → Option Value} {base : Heap} {n : Nat} [F : Fam Xf P w K mg base n]
variable {m m1 m2 m3 m4 : List Ty} {pos : Pos} {a b c d0 : Expr} {f1 f2 f3 f4 : Ef}
theorem stt_over {G H : Hp} {m : List Ty} {σ : St} {e : En} {A : List Addr} {p : Addr} {o : HO} (st : Stt K m G H σ e A) (gp : G p = none) (hA : p ∉ A) : Stt K m G (upd H p o) σ e A :=
  ⟨ownA_fr st.own (Same.refl G) (fun a ha => (ownA_at st.own a ha).1) (fun a ha => upd_ne fun z => hA (z ▸ ha)), st.nd, fun b x hx => by rw [upd_ne (ne_of_none hx gp)]; exact st.sub b x hx⟩
theorem pd_disp2 (h1 : PD Xf K m a .s f1 m1) (h2 : PD Xf K m1 b .s f2 m2) (h3 : PD Xf K m2 c .s f3 m3) (h4 : PD Xf K m3 d0 .s f4 m4) : PD Xf K m (.Dict [some a, some c] [b, d0] pos) .d (eDisp2 f1 f2 f3 f4) m4 := by
  obtain ⟨ta, pa, da⟩ := h1.ex
  obtain ⟨tb, pb, db⟩ := h2.ex
  obtain ⟨tc, pc, dc⟩ := h3.ex
  obtain ⟨td, pd, dd⟩ := h4.ex
  refine ⟨_, fun i => pe_disp (pps_cons (pa i) (pb i) (pps_cons (pc i) (pd i) pps_nil)) rfl rfl (by simp) (by simp), fun {G H σ e A d e' Q} st hf k => ?_⟩
  obtain ⟨⟨y1, e1⟩, g1, hf⟩ := Option.bind_eq_some_iff.mp hf
  obtain ⟨⟨y2, e2⟩, g2, hf⟩ := Option.bind_eq_some_iff.mp hf
  obtain ⟨⟨y3, e3⟩, g3, hf⟩ := Option.bind_eq_some_iff.mp hf
  obtain ⟨⟨y4, e4⟩, g4, hf⟩ := Option.bind_eq_some_iff.mp hf
  obtain ⟨dz, g5, hf⟩ := Option.bind_eq_some_iff.mp hf
  cases hf
  intro p hp
  obtain ⟨s0, st0, nd0, gp⟩ := new_o (o := .dK []) (B := []) st hp
  refine da st0 g1 fun G1 H1 x1 B1 A1 s1 st1 o1 nd1 => ?_
  cases o1 with
  | s q1 =>
    refine db st1 g2 fun G2 H2 x2 B2 A2 s2 st2 o2 nd2 => ?_
    cases o2 with
    | s q2 =>
      refine dc st2 g3 fun G3 H3 x3 B3 A3 s3 st3 o3 nd3 => ?_
      cases o3 with
      | s q3 =>
        refine dd st3 g4 fun G4 H4 x4 B4 A4 s4 st4 o4 nd4 => ?_
        cases o4 with
        | s q4 =>
          cases y1 with
          | int i =>
            cases y3 with
            | int j =>
              cases (show some (PyData.dict (putD (putD [] i y2) j y4)) = some _ from g5)
              obtain rfl := dq_int q1
              obtain rfl := dq_int q3
              have q2' := q2.mono (s3.sg.trans s4.sg)
              obtain ⟨S, ndS, gS, hS⟩ := Step.seq (Av := [p]) (A1 := A) s0 (fun z hz => by rw [List.mem_singleton.mp hz]; exact ⟨gp, _, upd_same⟩) nd0 (((s1.seq0 s2).seq0 s3).seq0 s4) st4.nd
              have gp4 := gS p (List.mem_singleton.mpr rfl)
              have hp4 : H4 p = some (.dK []) := (hS p (List.mem_singleton.mpr rfl)).trans upd_same
              have pA : p ∉ A4 := (List.nodup_cons.mp ndS).1
              refine ⟨hp4, [(Sum.inl i, x2), (Sum.inl j, x4)], rfl, by simp, ?_⟩
              have em : mergeK [] [((Sum.inl i : Key), x2), (Sum.inl j, x4)] = (putI (putI [] i x2) j x4).map kvV := by
                show putK (putK [] (Sum.inl i) x2) (Sum.inl j) x4 = _
                rw [← putK_map, ← putK_map]; rfl
              rw [em]
              have ek : ((putI (putI ([] : List (Int × V)) i x2) j x4).map (·.1)) = (putI (putI ([] : List (Int × PyData)) i y2) j y4).map (·.1) := putI_keys (putI_keys (by rfl) i x2 y2) j x4 y4
              have er : DqA K G4 ((putI (putI ([] : List (Int × V)) i x2) j x4).map (·.2)) ((putI (putI ([] : List (Int × PyData)) i y2) j y4).map (·.2)) := put_rel j q4 (putI_keys (by rfl) i x2 y2) (put_rel i q2' (kvs := []) (ds := []) rfl DqA.nil)
              have l1 := putI_len ([] : List (Int × V)) i x2
              have l2 := putI_len (putI ([] : List (Int × V)) i x2) j x4
              have ez : (putI (putI ([] : List (Int × V)) i x2) j x4).length ≤ sizeLine := Nat.le_trans (show _ ≤ 2 by simp at l1; omega) (by decide)
              have ed : PyData.dict (putD (putD [] i y2) j y4) = .dict ((putI (putI [] i y2) j y4).map kvD) := by
                rw [← putD_map, ← putD_map]; rfl
              rw [ed] at k
              have S' : Step A G H ([p] ++ A4) G4 (upd H4 p (.dK ((putI (putI [] i x2) j x4).map kvV))) := ⟨S.sg, fun z o hz hzA => by rw [upd_ne (ne_of_none hz hp)]; exact S.fr z o hz hzA, S.own, S.gnew⟩
              exact k _ _ _ [p] A4 S' (stt_over st4 gp4 pA) (.d gp4 upd_same ek er ez) ndS
            | _ => cases g5
          | _ => cases g5
end
@[simp] theorem reDisp2 {f1 f2 f3 f4 : Ef} {e : En} : eDisp2 f1 f2 f3 f4 e = (f1 e).bind fun p1 => (f2 p1.2).bind fun p2 => (f3 p2.2).bind fun p3 => (f4 p3.2).bind fun p4 => (gDisp2 p1.1 p2.1 p3.1 p4.1).bind fun d => some (d, p4.2) := rfl
end DL

namespace DL
open PySem L2 PySem.Spec

/-! ### a module's tuple of texts -/
section
variable {ι : Type} {Xf : ι → Cx} {P : Program} {w : World} {K : PySem.W.Frag} {mg : Str → Option Value} {base : Heap} {n : Nat} [F : Fam Xf P w K mg base n]
variable {m : List Ty} {pos : Pos}
theorem dq_ctup1 {G : Hp} {a : Addr} {s : Str} {t : Tok} {c : Nat} {sl : Array (Option Value)} (hk : K.lookup a = some ⟨.type "tuple", none, .seq #[.str s t] c, sl⟩) (hs : s.length ≤ sizeLine) : Dq K G (.ref a) (.tuple [.str s]) := by
  have nd : NdT K G a [.str s] := .inr ⟨_, _, _, hk, rfl, rfl, rfl, by show 1 ≤ sizeLine; decide, .cons ⟨t, rfl⟩ .nil⟩
  have q : DqA K G [.str s] [.str s] := DqA.cons (.str s hs) DqA.nil
  exact .tup nd q.1 (by show 1 ≤ sizeLine; decide) q.2
theorem dq_ctup2 {G : Hp} {a : Addr} {s s2 : Str} {t t2 : Tok} {c : Nat} {sl : Array (Option Value)} (hk : K.lookup a = some ⟨.type "tuple", none, .seq #[.str s t, .str s2 t2] c, sl⟩) (hs : s.length ≤ sizeLine) (hs2 : s2.length ≤ sizeLine) : Dq K G (.ref a) (.tuple [.str s, .str s2]) := by
  have nd : NdT K G a [.str s, .str s2] := .inr ⟨_, _, _, hk, rfl, rfl, rfl, by show 2 ≤ sizeLine; decide, .cons ⟨t, rfl⟩ (.cons ⟨t2, rfl⟩ .nil)⟩
  have q : DqA K G [.str s, .str s2] [.str s, .str s2] := DqA.cons (.str s hs) (DqA.cons (.str s2 hs2) DqA.nil)
  exact .tup nd q.1 (by show 2 ≤ sizeLine; decide) q.2
include F
theorem pd_gtup1 {x s : Str} {a : Addr} {t : Tok} {c : Nat} {sl : Array (Option Value)} (hm : mg x = some (.ref a)) (hk : K.lookup a = some ⟨.type "tuple", none, .seq #[.str s t] c, sl⟩) (hs : s.length ≤ sizeLine := by decide) (hg : ∀ i, Gl (Xf i) x := by intro _; rfl) (hd : (x == ("__debug__" : Str)) = false := by decide) : PD Xf K m (.Name x pos) .s (eC (.tuple [.str s])) m :=
  ⟨_, fun j => pe_glob (v := .ref a) (hg j) (by rw [F.mg_ j]; exact hm) rfl hd, fun {G H σ e A d e' Q} st hf k => by cases hf; exact ans_s st (dq_ctup1 hk hs) k⟩
theorem pd_gtup2 {x s s2 : Str} {a : Addr} {t t2 : Tok} {c : Nat} {sl : Array (Option Value)} (hm : mg x = some (.ref a)) (hk : K.lookup a = some ⟨.type "tuple", none, .seq #[.str s t, .str s2 t2] c, sl⟩) (hs : s.length ≤ sizeLine := by decide) (hs2 : s2.length ≤ sizeLine := by decide) (hg : ∀ i, Gl (Xf i) x := by intro _; rfl) (hd : (x == ("__debug__" : Str)) = false := by decide) : PD Xf K m (.Name x pos) .s (eC (.tuple [.str s, .str s2])) m :=
  ⟨_, fun j => pe_glob (v := .ref a) (hg j) (by rw [F.mg_ j]; exact hm) rfl hd, fun {G H σ e A d e' Q} st hf k => by cases hf; exact ans_s st (dq_ctup2 hk hs hs2) k⟩
end
end DL

namespace DL
open PySem L2 PySem.Spec

/-! ### zip of a tuple and a list -/
def ItzM (K : PySem.W.Frag) (a b : Addr) : It where
  go i H := ∃ (xs ys : List V) (x y : V), SqT K H a xs ∧ SqL K H b ys ∧ xs[i]? = some x ∧ ys[i]? = some y
  yld i H v H' := ∃ (T : Addr) (x y : V), v = .ref T ∧ H T = none ∧ H' = upd H T (.tup [x, y]) ∧ (∀ xs, SqT K H a xs → xs[i]? = some x) ∧ ∀ ys, SqL K H b ys → ys[i]? = some y
  stop i H := ∃ xs ys : List V, SqT K H a xs ∧ SqL K H b ys ∧ i = min xs.length ys.length
theorem ne_iterL {h : Heap} {it a a' : Addr} {i : Nat} {its : Array Value} (h1 : h.IsListIter it a i) (h2 : h.IsList a' its) : a' ≠ it := fun z => by
  obtain ⟨o, ho, hc, _⟩ := h1
  obtain ⟨o', ho', hc', _⟩ := h2
  rw [z, ho] at ho'; cases ho'
  rw [hc] at hc'; exact absurd (Value.type.inj hc') (by decide)
theorem turn_zipM {P : Program} {w : World} {K : PySem.W.Frag} {elts : List Expr} {kk : Nat} {tpos : Pos} {a b z TI TO i1 i2 : Addr} (D : ZipSep2 z TI TO i1 i2 [i1, a] [i2, b]) :
    Turn P w K (.Tuple elts kk tpos) (ItzM K a b) [z, TI, TO, i1, i2] z (fun i h => IsZip h z TI TO .none ∧ IsTupOf2 h TI (.ref i1) (.ref i2) ∧ (∃ p q, IsTupOf2 h TO p q) ∧ h.IsTupleIter i1 a i ∧ h.IsListIter i2 b i) where
  mem := List.mem_cons_self ..
  obj i h st g hg := by
    obtain ⟨hz, hTI, ⟨p, q, hTO⟩, ⟨o1, e1, _, d1⟩, ⟨o2, e2, _, d2⟩⟩ := st
    have cs : g = z ∨ g = TI ∨ g = TO ∨ g = i1 ∨ g = i2 := by simpa using hg
    rcases cs with rfl | rfl | rfl | rfl | rfl
    · exact ⟨_, hz, fun _ t => nomatch t⟩
    · exact ⟨_, hTI, fun _ t => nomatch t⟩
    · exact ⟨_, hTO, fun _ t => nomatch t⟩
    · exact ⟨o1, e1, fun _ t => by rw [d1] at t; cases t⟩
    · exact ⟨o2, e2, fun _ t => by rw [d2] at t; cases t⟩
  keep i h h' st k := by
    obtain ⟨hz, hTI, ⟨p, q, hTO⟩, e1, e2⟩ := st
    exact ⟨k z (by simp) _ hz, k TI (by simp) _ hTI, ⟨p, q, k TO (by simp) _ hTO⟩, e1.at fun o t => k i1 (by simp) o t, e2.at fun o t => k i2 (by simp) o t⟩
  item := by
    rintro X rfl rfl rfl calm i pins s σ H E I own ⟨hz, hTI, ⟨p0, q0, hTO⟩, e1, e2⟩ ⟨xs, ys, x, y, hqx, hqy, hx, hy⟩
    obtain ⟨its1, rv1, tp1, _⟩ := I.tuple hqx
    obtain ⟨its2, rv2, tp2, _⟩ := I.list hqy
    obtain ⟨v1, hv1, ru1⟩ := rv1.get hx
    obtain ⟨v2, hv2, ru2⟩ := rv2.get hy
    have lz := Heap.lt_size hz
    have l1 : i < its1.toArray.size := by simpa using (List.getElem?_eq_some_iff.mp hv1).1
    have l2 : i < its2.toArray.size := by simpa using (List.getElem?_eq_some_iff.mp hv2).1
    refine wpAny_pyNext_zipD2_item D (Draws.tuple (A := X.A.in1) (I.ok.hd calm) i1 a (ne_iterT e1 tp1) its1.toArray) (Draws.list (A := X.A.in1) (I.ok.hd calm) i2 b (ne_iterL e2 tp2.isList) its2.toArray)
      hz hTI hTO ⟨e1, tp1⟩ ⟨e2, tp2.isList⟩ l1 l2 fun w1 w2 h1 tk k1 k2 hz1 hTO1 st1 st2 hT sz kept => ?_
    have same1 : w1 = v1 := by
      have t : its1.toArray[i]? = some v1 := by simpa using hv1
      rw [t] at k1; exact (Option.some.inj k1).symm
    have same2 : w2 = v2 := by
      have t : its2.toArray[i]? = some v2 := by simpa using hv2
      rw [t] at k2; exact (Option.some.inj k2).symm
    subst same1 same2
    refine ⟨_, rfl, wpAny_letOwnedTupleGo_zip (s := { s with heap := h1, toks := tk }) hz1 fun h2 hz2 sm => ?_⟩
    have T2 : h2.get? s.heap.objs.size = some { cls := .type "tuple", data := .seq #[w1, w2] } := (sm.2 _ (Nat.ne_of_gt lz)).trans hT
    have okT : ObjOk X.prog X.w (upd H s.heap.objs.size (.tup [x, y])) h2 s.heap.objs.size (.tup [x, y]) :=
      ⟨by show 2 ≤ sizeLine; decide, [w1, w2], .cons ru1 (.cons ru2 .nil), ⟨_, T2, rfl, _, rfl⟩⟩
    have J := I.turnedNew (t' := tk) (ch := [z, TI, TO, i1, i2]) (h' := h2) (fun g ob hb q => (sm.2 g fun t => hb (by simp [t])).trans (kept g ob (fun t => hb (by simp [t])) (fun t => hb (by simp [t])) (fun t => hb (by simp [t])) (fun t => hb (by simp [t])) q)) own (Nat.le_refl _) okT
    refine ⟨.ref s.heap.objs.size, _, J, rfl, ⟨_, x, y, rfl, I.hok.fresh (Nat.le_refl _), rfl, fun l hl => by rw [I.tuple_inj hl hqx]; exact hx, fun l hl => by rw [I.list_inj hl hqy]; exact hy⟩, ⟨hz2, ?_, ⟨w1, w2, ?_⟩, ?_, ?_⟩, fun g hg => ?_⟩
    · exact (sm.2 _ D.TIz).trans (kept _ _ D.TIz D.TITO D.TIi1 D.TIi2 hTI)
    · exact (sm.2 _ D.TOz).trans hTO1
    · exact st1.1.at fun o t => (sm.2 _ (Ne.symm D.zi1)).trans t
    · exact st2.1.at fun o t => (sm.2 _ (Ne.symm D.zi2)).trans t
    · have lg : g < s.heap.objs.size := by
        have cs : g = z ∨ g = TI ∨ g = TO ∨ g = i1 ∨ g = i2 := by simpa using hg
        rcases cs with t | t | t | t | t
        · rw [t]; exact lz
        · rw [t]; exact Heap.lt_size hTI
        · rw [t]; exact Heap.lt_size hTO
        · rw [t]; obtain ⟨_, m1, _⟩ := e1; exact Heap.lt_size m1
        · rw [t]; obtain ⟨_, m2, _⟩ := e2; exact Heap.lt_size m2
      rw [upd_ne (Nat.ne_of_lt lg)]
      exact (own g hg).1
  done := by
    rintro X rfl rfl rfl calm i pins s σ H E I own ⟨hz, hTI, ⟨p0, q0, hTO⟩, e1, e2⟩ ⟨xs, ys, hqx, hqy, hi⟩
    obtain ⟨its1, rv1, tp1, _⟩ := I.tuple hqx
    obtain ⟨its2, rv2, tp2, _⟩ := I.list hqy
    have n1 := rv1.length
    have n2 := rv2.length
    have z1 : its1.toArray.size = xs.length := by simp [n1]
    have z2 : its2.toArray.size = ys.length := by simp [n2]
    exact wpAny_pyNext_zipD2_end D (Draws.tuple (A := X.A.in1) (I.ok.hd calm) i1 a (ne_iterT e1 tp1) its1.toArray) (Draws.list (A := X.A.in1) (I.ok.hd calm) i2 b (ne_iterL e2 tp2.isList) its2.toArray)
      hz hTI hTO ⟨e1, tp1⟩ ⟨e2, tp2.isList⟩ (by omega) (by omega) (by omega) fun h' tk kept => ⟨rfl, I.turnedL (t' := tk) (ch := [z, TI, TO, i1, i2]) (fun g o hb t => kept g o (fun q => hb (by simp [q])) (fun q => hb (by simp [q])) (fun q => hb (by simp [q])) (fun q => hb (by simp [q])) t) own⟩
  self A i s Q E st q := wpAny_pyIter_zip st.1 q

def iZipM (K : PySem.W.Frag) (ta : TA) : TI := fun σ H R => ta σ H fun vs H1 => ∃ a b xs ys, vs = [.ref a, .ref b] ∧ SqT K H1 a xs ∧ SqL K H1 b ys ∧ R (ItzM K a b) H1
theorem pi_zipM {X : Cx} {e e2 : Expr} {ta : TA} {p pos tpos : Pos} {elts : List Expr} {kk : Nat} (hg : Gl X "zip") (hm : X.mg "zip" = none) (ha : PA X [e, e2] ta)
    (hs : starEach [e, e2] X.env = (false, eval e X.env) :: starEach [e2] X.env := by rfl) (hpl : (backTo pos (starEach [e2] X.env)).any (·.1) = false := by rfl) :
    PI X (.Tuple elts kk tpos) (.Call (.Name "zip" p) [e, e2] [] pos) (iZipM X.K ta) := by
  refine ⟨fun pins s σ H R I h => ?_⟩
  refine PyProof.Rows.Call_ (ld_blt I hg hm bt_zip (PyProof.Rows.callWith_type1 (thn (ha.run pos pins s σ H _ I h) ?_) hs hpl))
  rintro us0 s1 ⟨vs, H1, I1, r1, a, b, xs, ys, rfl, hqx, hqy, q⟩
  cases r1 with
  | cons ra rr =>
    cases rr with
    | cons rb rr =>
      cases rr
      cases ra
      cases rb
      obtain ⟨its1, rv1, tp1, _⟩ := I1.tuple hqx
      obtain ⟨its2, rv2, tp2, _⟩ := I1.list hqy
      have lt1 : a < s1.heap.objs.size := tp1.elim fun o q => Heap.lt_size q.1
      have lt2 : b < s1.heap.objs.size := tp2.lt
      refine zip_begins2 (begins_tuple a its1.toArray) (begins_list b its2.toArray) tp1 tp2.isList fun h' hz hTI hTO g1 g2 sz kept => wpAny_pyIter_zip hz ?_
      have I2 : Inv X pins σ H1 { s1 with heap := h' } := I1.kept (t' := s1.toks) kept
      refine ⟨s1.heap.objs.size + 4, [s1.heap.objs.size + 4, s1.heap.objs.size + 2, s1.heap.objs.size + 3, s1.heap.objs.size, s1.heap.objs.size + 1], _, _, H1, rfl, I2,
        turn_zipM (zip_sep2 (N := s1.heap.objs.size) (fp1 := [a]) (fp2 := [b]) (fun g hg => by rw [List.mem_singleton.mp hg]; exact lt1) (fun g hg => by rw [List.mem_singleton.mp hg]; exact lt2)),
        ⟨hz, hTI, ⟨_, _, hTO⟩, ⟨_, g1, rfl, rfl⟩, ⟨_, g2, rfl, rfl⟩⟩, fun g hg => ?_, q⟩
      have le : s1.heap.objs.size ≤ g := by
        have cs : g = s1.heap.objs.size + 4 ∨ g = s1.heap.objs.size + 2 ∨ g = s1.heap.objs.size + 3 ∨ g = s1.heap.objs.size ∨ g = s1.heap.objs.size + 1 := by simpa using hg
        have cs : ∃ j : Nat, g = s1.heap.objs.size + j := by
          rcases cs with t | t | t | t | t
          · exact ⟨4, t⟩
          · exact ⟨2, t⟩
          · exact ⟨3, t⟩
          · exact ⟨0, t⟩
          · exact ⟨1, t⟩
        obtain ⟨j, rfl⟩ := cs
        exact Nat.le_add_right _ _
      exact I1.fpOk le (I1.hok.fresh le)
section
variable {K : PySem.W.Frag} {G H : Hp} {m : List Ty} {σ : St} {e : En} {A : List Addr}
theorem walkD_zipM {a b : Addr} {xs ys : List V} {ds es : List PyData} (hr : SqT K G a xs) (q : DqA K G xs ds) (hr2 : Rd G b (.lst ys)) (q2 : DqA K G ys es) : WalkD K true G (ItzM K a b) (zipD ds es) := by
  have l := q.1
  have l2 := q2.1
  refine ⟨fun i H hi s => ?_, fun H s => ⟨xs, ys, same_seqT s hr, .inl (same_rd s hr2), by rw [zipD_len]; omega⟩, fun {i H x H' m G' σ e A} hi s st y => ?_⟩
  · rw [zipD_len] at hi
    exact ⟨xs, ys, xs[i]'(by omega), ys[i]'(by omega), same_seqT s hr, .inl (same_rd s hr2), List.getElem?_eq_getElem (by omega), List.getElem?_eq_getElem (by omega)⟩
  · obtain ⟨T, z, z2, rfl, hT, rfl, hz, hz2⟩ := y
    have hx := hz xs (same_seqT (s.trans st.sub) hr)
    have hy := hz2 ys (.inl (same_rd (s.trans st.sub) hr2))
    obtain ⟨d, hd⟩ : ∃ d, (zipD ds es)[i]? = some d := ⟨_, List.getElem?_eq_getElem hi⟩
    obtain ⟨dx, dy, h1, h2, rfl⟩ := zipD_get _ _ _ _ hd
    obtain ⟨G2, s2, st2, sg2, q4⟩ := pair_new st hT ((q.2 i z _ hx h1).mono s) ((q2.2 i z2 _ hy h2).mono s)
    exact ⟨G2, s2, st2, sg2, fun d' hd' => by rw [hd] at hd'; cases hd'; exact q4⟩
end
def zipMS : PyData → PyData → Option (List PyData)
  | .tuple xs, .list ys => some (zipD xs ys)
  | _, _ => none
def iZpM (f g : Ef) : Lf := fun e => (f e).bind fun p => (g p.2).bind fun q => (zipMS p.1 q.1).bind fun ds => some (ds, q.2)
section
variable {ι : Type} {Xf : ι → Cx} {P : Program} {w : World} {K : PySem.W.Frag} {mg : Str → Option Value} {base : Heap} {n : Nat} [F : Fam Xf P w K mg base n]
variable {m m1 m2 m3 : List Ty} {pos p p2 tpos : Pos} {a b c tg : Expr} {elts : List Expr} {kk : Nat} {f g h : Ef}
include F
theorem pi_zpM (hm : mg "zip" = none) (ha : PD Xf K m a .s f m1) (hb : PD Xf K m1 b .s g m2) (hg : ∀ i, Gl (Xf i) "zip" := by intro _; rfl) (hs : ∀ i, starEach [a, b] (Xf i).env = (false, eval a (Xf i).env) :: starEach [b] (Xf i).env := by intro _; rfl)
    (hs2 : ∀ i, starEach [b] (Xf i).env = (false, eval b (Xf i).env) :: starEach [] (Xf i).env := by intro _; rfl) (hpl : ∀ i, (backTo pos (starEach [b] (Xf i).env)).any (·.1) = false := by intro _; rfl) :
    PIt Xf K true m (.Tuple elts kk tpos) (.Call (.Name "zip" p) [a, b] [] pos) (iZpM f g) m2 := by
  obtain ⟨ta, pa, da⟩ := ha.ex
  obtain ⟨tb, pb, db⟩ := hb.ex
  refine ⟨iZipM K (tCons ta (tCons tb tNil)), fun i => (by have := pi_zipM (elts := elts) (kk := kk) (tpos := tpos) (p := p) (pos := pos) (hg i) (by rw [F.mg_ i]; exact hm) (pa_cons (pa i) (pa_cons (pb i) pa_nil (hs2 i)) (hs i)) (hs i) (hpl i); rw [F.kk i] at this; exact this), fun {G H σ e A ds e' R} st hf k => ?_⟩
  unfold iZpM at hf
  obtain ⟨⟨d1, e1⟩, hf1, hf⟩ := Option.bind_eq_some_iff.mp hf
  obtain ⟨⟨d2, e2⟩, hf2, hf⟩ := Option.bind_eq_some_iff.mp hf
  obtain ⟨ds1, hf4, hf⟩ := Option.bind_eq_some_iff.mp hf
  cases hf
  refine da st hf1 fun G1 H1 v1 A1 B1 s1 st1 o1 nd1 => ?_
  cases o1 with
  | s q1 =>
    refine db st1 hf2 fun G2 H2 v2 A2 B2 s2 st2 o2 nd2 => ?_
    cases o2 with
    | s q2 =>
      have q1' := q1.mono s2.sg
      have hf4 : zipMS d1 d2 = some ds := hf4
      unfold zipMS at hf4
      split at hf4
      · cases hf4
        obtain ⟨a, xs, rfl, r1, z1, w1⟩ := dq_tup q1'
        obtain ⟨b, ys, rfl, r2, z2, w2⟩ := dq_lst q2
        refine ⟨a, b, xs, ys, rfl, same_seqT st2.sub r1, .inl (same_rd st2.sub r2), k _ _ _ _ (s1.seq0 s2) st2 (walkD_zipM r1 w1 r2 w2) ?_⟩
        rw [zipD_len]; have := w1.1; omega
      · cases hf4
end
@[simp] theorem riZpM {f g : Ef} {e : En} : iZpM f g e = (f e).bind fun p => (g p.2).bind fun q => (zipMS p.1 q.1).bind fun ds => some (ds, q.2) := rfl
@[simp] theorem xZipM {xs ys : List PyData} : zipMS (.tuple xs) (.list ys) = some (zipD xs ys) := rfl
end DL

namespace DL
open PySem L2 PySem.Spec

/-! ### -c as a quiet value -/
section
variable {ι : Type} {Xf : ι → Cx} {P : Program} {w : World} {K : PySem.W.Frag} {mg : Str → Option Value} {base : Heap} {n : Nat} [F : Fam Xf P w K mg base n]
variable {m : List Ty} {pos p1 : Pos}
theorem pq_neg {c : Int} {k : Nat} : PQ Xf K m (.UnaryOp .USub (.Constant (.int c) k p1) pos) (qC (.int (-c))) :=
  ⟨_, fun j => pe_un un_neg pe_int, fun {G H σ e A d Q} st hf kk => by cases hf; exact ⟨c, rfl, kk H _ (Same.refl H) (.int _)⟩⟩
end
end DL

namespace DL
open PySem L2 PySem.Spec

/-! ### plain words for what a def computes: no environment -/
def asB : PyData → Option Bool
  | .bool b => some b
  | _ => none
def ifB {α : Type} (v : PyData) (a b : Option α) : Option α := match v with
  | .bool true => a
  | .bool false => b
  | _ => none
def grd (b : Bool) : Option Unit := if b = true then some () else none
def un2 : PyData → Option (PyData × PyData)
  | .tuple [a, b] => some (a, b)
  | _ => none
def un3 : PyData → Option (PyData × PyData × PyData)
  | .tuple [a, b, c] => some (a, b, c)
  | _ => none
def un4 : PyData → Option (PyData × PyData × PyData × PyData)
  | .tuple [a, b, c, d] => some (a, b, c, d)
  | _ => none
def gApp (l x : PyData) : Option PyData := match l with
  | .list ds => if ds.length < sizeLine then some (.list (ds ++ [x])) else none
  | _ => none
def gPop : PyData → Option (PyData × PyData)
  | .list ds => (ds[ds.length - 1]?).bind fun x => some (x, .list ds.dropLast)
  | _ => none
def gSet (l i x : PyData) : Option PyData := match l, i with
  | .list ds, .int k => (ixN ds.length k).bind fun j => some (.list (ds.set j x))
  | _, _ => none
def gEn (d : PyData) : Option (List PyData) := (seqD d).bind fun ds => some (enumD 0 ds)
def consO {α : Type} : Option α → List α → List α
  | some y, ys => y :: ys
  | none, ys => ys
def mapS {α β : Type} : List α → (α → Option β) → Option (List β)
  | [], _ => some []
  | x :: xs, f => (f x).bind fun y => (mapS xs f).bind fun ys => some (y :: ys)
def filS {α β : Type} : List α → (α → Option (Option β)) → Option (List β)
  | [], _ => some []
  | x :: xs, f => (f x).bind fun y => (filS xs f).bind fun ys => some (consO y ys)
def mapE {α β σ : Type} : List α → (α → σ → Option (β × σ)) → σ → Option (List β × σ)
  | [], _, s => some ([], s)
  | x :: xs, f, s => (f x s).bind fun p => (mapE xs f p.2).bind fun q => some (p.1 :: q.1, q.2)
def filE {α β σ : Type} : List α → (α → σ → Option (Option β × σ)) → σ → Option (List β × σ)
  | [], _, s => some ([], s)
  | x :: xs, f, s => (f x s).bind fun p => (filE xs f p.2).bind fun q => some (consO p.1 q.1, q.2)
def foldS {α σ : Type} : List α → (α → σ → Option σ) → σ → Option σ
  | [], _, s => some s
  | x :: xs, f, s => (f x s).bind fun s' => foldS xs f s'
def forS {α σ : Type} : List α → (α → σ → Option (Out × σ)) → σ → Option (Out × σ)
  | [], _, s => some (.nx, s)
  | x :: xs, f, s => (f x s).bind fun p => match p.1 with
    | .nx => forS xs f p.2
    | .ct => forS xs f p.2
    | .bk => some (.nx, p.2)
    | .rt r => some (.rt r, p.2)
def whS {σ : Type} : Nat → (σ → Option Bool) → (σ → Option σ) → σ → Option σ
  | 0, _, _, _ => none
  | k + 1, c, f, s => (c s).bind fun b => if b = true then (f s).bind fun s' => whS k c f s' else some s
def whR {σ : Type} : Nat → (σ → Option Bool) → (σ → Option (Out × σ)) → σ → Option (Out × σ)
  | 0, _, _, _ => none
  | k + 1, c, f, s => (c s).bind fun b => if b = true then (f s).bind fun p => match p.1 with
    | .nx => whR k c f p.2
    | .ct => whR k c f p.2
    | .bk => some (.nx, p.2)
    | .rt r => some (.rt r, p.2) else some (.nx, s)
/-- what follows a loop that may have returned -/
def thenS {σ ρ : Type} (p : Out × σ) (k : σ → Option ρ) (r : PyData → σ → Option ρ) : Option ρ := match p.1 with
  | .rt d => r d p.2
  | _ => k p.2

/-! ### the environment's side is these words -/
def ctnx : Out → Out
  | .ct => .nx
  | o => o
theorem lc_map {vs : List Nat} {gf : Gf} {ef : Ef} {E : En} (f : PyData → Option PyData) (h : ∀ d, ((gf d E).bind fun e1 => (ef e1).bind fun q => some (q.1, restE E q.2 vs)) = (f d).bind fun r => some (r, E)) :
    ∀ xs, lcL vs gf bYes ef xs E = (mapS xs f).bind fun r => some (r, E)
  | [] => rfl
  | x :: xs => by
    have ih := lc_map f h xs
    have hx := h x
    unfold lcL mapS
    simp only [bYes, Option.bind_some, if_true]
    cases hf : f x with
    | none =>
      rw [hf] at hx
      simp only [Option.bind_none] at hx
      cases hg : gf x E with
      | none => rfl
      | some e1 =>
        rw [hg] at hx
        simp only [Option.bind_some, Option.bind_eq_none_iff] at hx
        cases he : ef e1 with
        | none => simp [he]
        | some q => exact absurd (hx q he) (by simp)
    | some y =>
      rw [hf] at hx
      cases hg : gf x E with
      | none => rw [hg] at hx; simp at hx
      | some e1 =>
        rw [hg] at hx
        simp only [Option.bind_some] at hx ⊢
        cases he : ef e1 with
        | none => rw [he] at hx; simp at hx
        | some q =>
          rw [he] at hx
          simp only [Option.bind_some, Option.some.injEq, Prod.mk.injEq] at hx ⊢
          rw [hx.2, ih, hx.1]
          cases mapS xs f <;> rfl
theorem lc_mapE {σ : Type} {vs : List Nat} {gf : Gf} {ef : Ef} (emb : σ → En) (f : PyData → σ → Option (PyData × σ)) (h : ∀ d s, ((gf d (emb s)).bind fun e1 => (ef e1).bind fun q => some (q.1, restE (emb s) q.2 vs)) = (f d s).bind fun r => some (r.1, emb r.2)) :
    ∀ xs s, lcL vs gf bYes ef xs (emb s) = (mapE xs f s).bind fun r => some (r.1, emb r.2)
  | [], s => rfl
  | x :: xs, s => by
    have hx := h x s
    unfold lcL mapE
    simp only [bYes, Option.bind_some, if_true]
    cases hf : f x s with
    | none =>
      rw [hf] at hx
      simp only [Option.bind_none] at hx
      cases hg : gf x (emb s) with
      | none => rfl
      | some e1 =>
        rw [hg] at hx
        simp only [Option.bind_some, Option.bind_eq_none_iff] at hx
        cases he : ef e1 with
        | none => simp [he]
        | some q => exact absurd (hx q he) (by simp)
    | some y =>
      rw [hf] at hx
      cases hg : gf x (emb s) with
      | none => rw [hg] at hx; simp at hx
      | some e1 =>
        rw [hg] at hx
        simp only [Option.bind_some] at hx ⊢
        cases he : ef e1 with
        | none => rw [he] at hx; simp at hx
        | some q =>
          rw [he] at hx
          simp only [Option.bind_some, Option.some.injEq, Prod.mk.injEq] at hx ⊢
          rw [hx.2, lc_mapE emb f h xs y.2, hx.1]
          cases mapE xs f y.2 <;> rfl
/-- one turn of a comprehension with a test -/
def lcB (vs : List Nat) (gf : Gf) (tf : Bf) (ef : Ef) (d : PyData) (E : En) : Option (Option PyData × En) :=
  (gf d E).bind fun e1 => (tf e1).bind fun p => if p.1 = true then (ef p.2).bind fun q => some (some q.1, restE E q.2 vs) else some (none, restE E p.2 vs)
theorem lcL_B {vs : List Nat} {gf : Gf} {tf : Bf} {ef : Ef} {x : PyData} {xs : List PyData} {E : En} : lcL vs gf tf ef (x :: xs) E = (lcB vs gf tf ef x E).bind fun p => (lcL vs gf tf ef xs p.2).bind fun r => some (consO p.1 r.1, r.2) := by
  show ((gf x E).bind fun e1 => (tf e1).bind fun p => if p.1 = true then (ef p.2).bind fun q => (lcL vs gf tf ef xs (restE E q.2 vs)).bind fun r => some (q.1 :: r.1, r.2) else lcL vs gf tf ef xs (restE E p.2 vs)) = _
  unfold lcB
  cases gf x E with
  | none => rfl
  | some e1 =>
    simp only [Option.bind_some]
    cases tf e1 with
    | none => rfl
    | some p =>
      simp only [Option.bind_some]
      split
      · cases ef p.2 <;> rfl
      · simp only [Option.bind_some]
        cases lcL vs gf tf ef xs (restE E p.2 vs) <;> rfl
theorem lc_filE {σ : Type} {vs : List Nat} {gf : Gf} {tf : Bf} {ef : Ef} (emb : σ → En) (f : PyData → σ → Option (Option PyData × σ)) (h : ∀ d s, lcB vs gf tf ef d (emb s) = (f d s).bind fun r => some (r.1, emb r.2)) :
    ∀ xs s, lcL vs gf tf ef xs (emb s) = (filE xs f s).bind fun r => some (r.1, emb r.2)
  | [], s => rfl
  | x :: xs, s => by
    rw [lcL_B, h x s]
    unfold filE
    cases hf : f x s with
    | none => rfl
    | some y =>
      simp only [Option.bind_some]
      rw [lc_filE emb f h xs y.2]
      cases filE xs f y.2 <;> rfl
theorem lc_fil {vs : List Nat} {gf : Gf} {tf : Bf} {ef : Ef} {E : En} (f : PyData → Option (Option PyData)) (h : ∀ d, lcB vs gf tf ef d E = (f d).bind fun r => some (r, E)) :
    ∀ xs, lcL vs gf tf ef xs E = (filS xs f).bind fun r => some (r, E)
  | [] => rfl
  | x :: xs => by
    rw [lcL_B, h x]
    unfold filS
    cases hf : f x with
    | none => rfl
    | some y =>
      simp only [Option.bind_some]
      rw [lc_fil f h xs]
      cases filS xs f <;> rfl
theorem for_fold {σ : Type} {gf : Gf} {sf : Sf} (emb : σ → En) (f : PyData → σ → Option σ) (h : ∀ d s, ((gf d (emb s)).bind fun e1 => (sf e1).bind fun p => some (ctnx p.1, p.2)) = (f d s).bind fun r => some (.nx, emb r)) :
    ∀ xs s, forL gf sf xs (emb s) = (foldS xs f s).bind fun r => some (.nx, emb r)
  | [], s => rfl
  | x :: xs, s => by
    have hx := h x s
    unfold forL foldS
    cases hg : gf x (emb s) with
    | none =>
      rw [hg] at hx
      cases hf : f x s with
      | none => rfl
      | some y => rw [hf] at hx; simp at hx
    | some e1 =>
      rw [hg] at hx
      simp only [Option.bind_some] at hx ⊢
      cases he : sf e1 with
      | none =>
        rw [he] at hx
        cases hf : f x s with
        | none => rfl
        | some y => rw [hf] at hx; simp at hx
      | some p =>
        rw [he] at hx
        cases hf : f x s with
        | none => rw [hf] at hx; simp at hx
        | some y =>
          rw [hf] at hx
          simp only [Option.bind_some, Option.some.injEq, Prod.mk.injEq] at hx ⊢
          have ih := for_fold emb f h xs y
          obtain ⟨o, e2⟩ := p
          simp only at hx ⊢
          rw [hx.2]
          cases o with
          | nx => exact ih
          | ct => exact ih
          | bk => cases hx.1
          | rt d => cases hx.1
theorem for_ret {σ : Type} {gf : Gf} {sf : Sf} {jr : List Nat} (emb : σ → En) (f : PyData → σ → Option (Out × σ)) (h : ∀ d s, ((gf d (emb s)).bind fun e1 => (sf e1).bind fun p => some (ctnx p.1, p.2)) = (f d s).bind fun r => some (ctnx r.1, outE [] jr r.1 (emb r.2))) :
    ∀ xs s, forL gf sf xs (emb s) = (forS xs f s).bind fun r => thenS r (fun s' => some (.nx, emb s')) (fun d s' => some (.rt d, fgE jr (emb s')))
  | [], s => rfl
  | x :: xs, s => by
    have hx := h x s
    unfold forL forS
    cases hg : gf x (emb s) with
    | none =>
      rw [hg] at hx
      cases hf : f x s with
      | none => rfl
      | some y => rw [hf] at hx; simp at hx
    | some e1 =>
      rw [hg] at hx
      simp only [Option.bind_some] at hx ⊢
      cases he : sf e1 with
      | none =>
        rw [he] at hx
        cases hf : f x s with
        | none => rfl
        | some y => rw [hf] at hx; simp at hx
      | some p =>
        rw [he] at hx
        cases hf : f x s with
        | none => rw [hf] at hx; simp at hx
        | some y =>
          rw [hf] at hx
          simp only [Option.bind_some, Option.some.injEq, Prod.mk.injEq] at hx ⊢
          have ih := for_ret emb f h xs y.2
          obtain ⟨o, e2⟩ := p
          obtain ⟨q, s2⟩ := y
          simp only at hx ih ⊢
          rw [hx.2]
          cases q <;> cases o <;> first | (cases hx.1; done) | exact ih | (have := hx.1; simp [ctnx] at this; done) | skip
          · rfl
          · have := hx.1; simp only [ctnx, Out.rt.injEq] at this; subst this; rfl
theorem wh_fold {σ : Type} {cf : Bf} {sf : Sf} (emb : σ → En) (c : σ → Option Bool) (f : σ → Option σ) (hc : ∀ s, cf (emb s) = (c s).bind fun b => some (b, emb s)) (h : ∀ s, ((sf (emb s)).bind fun p => some (ctnx p.1, p.2)) = (f s).bind fun r => some (.nx, emb r)) :
    ∀ n s, whL cf sf n (emb s) = (whS n c f s).bind fun r => some (.nx, emb r)
  | 0, s => rfl
  | n + 1, s => by
    have hx := h s
    unfold whL whS
    rw [hc]
    cases hcs : c s with
    | none => rfl
    | some b =>
      simp only [Option.bind_some]
      cases b with
      | false => rfl
      | true =>
        simp only [if_true]
        cases he : sf (emb s) with
        | none =>
          rw [he] at hx
          cases hf : f s with
          | none => rfl
          | some y => rw [hf] at hx; simp at hx
        | some p =>
          rw [he] at hx
          cases hf : f s with
          | none => rw [hf] at hx; simp at hx
          | some y =>
            rw [hf] at hx
            simp only [Option.bind_some, Option.some.injEq, Prod.mk.injEq] at hx ⊢
            have ih := wh_fold emb c f hc h n y
            obtain ⟨o, e2⟩ := p
            simp only at hx ⊢
            rw [hx.2]
            cases o with
            | nx => exact ih
            | ct => exact ih
            | bk => cases hx.1
            | rt d => cases hx.1
theorem wh_ret {σ : Type} {cf : Bf} {sf : Sf} {jr : List Nat} (emb : σ → En) (c : σ → Option Bool) (f : σ → Option (Out × σ)) (hc : ∀ s, cf (emb s) = (c s).bind fun b => some (b, emb s)) (h : ∀ s, ((sf (emb s)).bind fun p => some (ctnx p.1, p.2)) = (f s).bind fun r => some (ctnx r.1, outE [] jr r.1 (emb r.2))) :
    ∀ n s, whL cf sf n (emb s) = (whR n c f s).bind fun r => thenS r (fun s' => some (.nx, emb s')) (fun d s' => some (.rt d, fgE jr (emb s')))
  | 0, s => rfl
  | n + 1, s => by
    have hx := h s
    unfold whL whR
    rw [hc]
    cases hcs : c s with
    | none => rfl
    | some b =>
      simp only [Option.bind_some]
      cases b with
      | false => rfl
      | true =>
        simp only [if_true]
        cases he : sf (emb s) with
        | none =>
          rw [he] at hx
          cases hf : f s with
          | none => rfl
          | some y => rw [hf] at hx; simp at hx
        | some p =>
          rw [he] at hx
          cases hf : f s with
          | none => rw [hf] at hx; simp at hx
          | some y =>
            rw [hf] at hx
            simp only [Option.bind_some, Option.some.injEq, Prod.mk.injEq] at hx ⊢
            have ih := wh_ret emb c f hc h n y.2
            obtain ⟨o, e2⟩ := p
            obtain ⟨q, s2⟩ := y
            simp only at hx ih ⊢
            rw [hx.2]
            cases q <;> cases o <;> first | (cases hx.1; done) | exact ih | (have := hx.1; simp [ctnx] at this; done) | skip
            · rfl
            · have := hx.1; simp only [ctnx, Out.rt.injEq] at this; subst this; rfl
end DL

namespace DL
open PySem L2 PySem.Spec

/-! ### the environment's side, run -/
def seqR (p : Out × En) (k : En → Option (Out × En)) : Option (Out × En) := match p.1 with
  | .nx => k p.2
  | o => some (o, p.2)
def retR (ptys : List Ty) (ds : List PyData) (p : Out × En) : Option (PyData × List PyData) := match p.1 with
  | .rt d => some (d, fins ptys ds p.2)
  | .nx => some (.none, fins ptys ds p.2)
  | _ => none
def two {α : Type} (xs : List PyData) (k : PyData → PyData → Option α) : Option α := match xs with
  | [x, y] => k x y
  | _ => none
def three {α : Type} (xs : List PyData) (k : PyData → PyData → PyData → Option α) : Option α := match xs with
  | [x, y, z] => k x y z
  | _ => none
def gLenL : PyData → Option PyData
  | .list xs => some (.int xs.length)
  | _ => none
section
variable {f g h : Ef} {a b : Ef} {e e' e1 e2 : En} {j : Nat} {d d1 d2 : PyData} {fb gb : Bf} {fr : Lf} {sf sg : Sf} {fq gq gi : Gq} {pt : Pf} {gf gf2 gf3 gf4 : Gf} {gs : Gsf} {o : Out} {α β : Type}
@[simp] theorem seqR_nx {k : En → Option (Out × En)} : seqR (.nx, e) k = k e := rfl
@[simp] theorem seqR_bk {k : En → Option (Out × En)} : seqR (.bk, e) k = some (.bk, e) := rfl
@[simp] theorem seqR_ct {k : En → Option (Out × En)} : seqR (.ct, e) k = some (.ct, e) := rfl
@[simp] theorem seqR_rt {k : En → Option (Out × En)} : seqR (.rt d, e) k = some (.rt d, e) := rfl
@[simp] theorem retR_nx {ptys : List Ty} {ds : List PyData} : retR ptys ds (.nx, e) = some (.none, fins ptys ds e) := rfl
@[simp] theorem retR_rt {ptys : List Ty} {ds : List PyData} : retR ptys ds (.rt d, e) = some (d, fins ptys ds e) := rfl
@[simp] theorem two_ok {x y : PyData} {k : PyData → PyData → Option α} : two [x, y] k = k x y := rfl
@[simp] theorem three_ok {x y z : PyData} {k : PyData → PyData → PyData → Option α} : three [x, y, z] k = k x y z := rfl
@[simp] theorem ctnx_nx : ctnx .nx = .nx := rfl
@[simp] theorem ctnx_ct : ctnx .ct = .nx := rfl
@[simp] theorem ctnx_bk : ctnx .bk = .bk := rfl
@[simp] theorem ctnx_rt : ctnx (.rt d) = .rt d := rfl
@[simp] theorem outE_rt {js jr : List Nat} : outE js jr (.rt d) e = fgE jr e := rfl
@[simp] theorem outE_nx {js jr : List Nat} : outE js jr .nx e = fgE js e := rfl
@[simp] theorem outE_bk {js jr : List Nat} : outE js jr .bk e = fgE js e := rfl
@[simp] theorem outE_ct {js jr : List Nat} : outE js jr .ct e = fgE js e := rfl
@[simp] theorem fgE_nil : fgE [] e = e := rfl
@[simp] theorem fgE_cons {js : List Nat} : fgE (j :: js) e = fgE js (e.set j .none) := rfl
theorem ite_bind' {c : Prop} [Decidable c] {x y : Option α} {k : α → Option β} : (if c then x else y).bind k = if c then x.bind k else y.bind k := by split <;> rfl
theorem ifB_bind {v : PyData} {x y : Option α} {k : α → Option β} : (ifB v x y).bind k = ifB v (x.bind k) (y.bind k) := by
  unfold ifB
  split <;> rfl
theorem thenS_bind {σ : Type} {p : Out × σ} {K : σ → Option α} {R : PyData → σ → Option α} {k : α → Option β} : (thenS p K R).bind k = thenS p (fun s => (K s).bind k) (fun d s => (R d s).bind k) := by
  unfold thenS
  split <;> rfl
@[simp] theorem thenS_nx {σ : Type} {s : σ} {K : σ → Option α} {R : PyData → σ → Option α} : thenS (.nx, s) K R = K s := rfl
@[simp] theorem thenS_rt {σ : Type} {s : σ} {K : σ → Option α} {R : PyData → σ → Option α} : thenS (.rt d, s) K R = R d s := rfl
@[simp] theorem rVar : eVar j e = some (e.getD j .none, e) := rfl
@[simp] theorem rC : eC d e = some (d, e) := rfl
@[simp] theorem r1 {gg : PyData → Option PyData} : DL.e1 gg a e = (a e).bind fun p => (gg p.1).bind fun r => some (r, p.2) := rfl
@[simp] theorem r2 {gg : PyData → PyData → Option PyData} : DL.e2 gg a b e = (a e).bind fun p => (b p.2).bind fun q => (gg p.1 q.1).bind fun r => some (r, q.2) := rfl
@[simp] theorem rTup : eTup fr e = (fr e).bind fun p => some (.tuple p.1, p.2) := rfl
@[simp] theorem rLst : eLst fr e = (fr e).bind fun p => some (.list p.1, p.2) := rfl
@[simp] theorem rlNil : lNil e = some ([], e) := rfl
@[simp] theorem rlCons : lCons f fr e = (f e).bind fun p => (fr p.2).bind fun q => some (p.1 :: q.1, q.2) := rfl
@[simp] theorem rLend : eLend e = some (.none, e) := rfl
@[simp] theorem rCall {Fn : DFn} : eCall Fn fr e = (fr e).bind fun p => (Fn p.1).bind fun q => some (q.1, p.2) := rfl
@[simp] theorem rCallL {Fn : DFn} {k : Nat} : eCallL Fn k j fr e = (fr e).bind fun p => (Fn (p.1.set k (p.2.getD j .none))).bind fun q => some (q.1, p.2.set j (q.2.getD k .none)) := rfl
@[simp] theorem rCallL2 {Fn : DFn} {k1 j1 k2 j2 : Nat} : eCallL2 Fn k1 j1 k2 j2 fr e = (fr e).bind fun p => (Fn ((p.1.set k1 (p.2.getD j1 .none)).set k2 (p.2.getD j2 .none))).bind fun q => some (q.1, (p.2.set j2 (q.2.getD k2 .none)).set j1 (q.2.getD k1 .none)) := rfl
@[simp] theorem rbOf : bOf f e = (f e).bind fun p => (gTruth p.1).bind fun b => some (b, p.2) := rfl
@[simp] theorem rbT : bT f e = (f e).bind fun p => (asB p.1).bind fun b => some (b, p.2) := by
  show ((f e).bind fun p => match p.1 with | .bool b => some (b, p.2) | _ => none : Option (Bool × En)) = _
  congr 1; funext p; cases p.1 <;> rfl
@[simp] theorem rbAnd : bAnd fb gb e = (fb e).bind fun p => if p.1 = true then gb p.2 else some (false, p.2) := rfl
@[simp] theorem rbOr : bOr fb gb e = (fb e).bind fun p => if p.1 = true then some (true, p.2) else gb p.2 := rfl
@[simp] theorem rbNot : bNot fb e = (fb e).bind fun p => some (!p.1, p.2) := rfl
@[simp] theorem reAnd : eAnd f g e = (f e).bind fun p => ifB p.1 (g p.2) (some (.bool false, p.2)) := by
  show ((f e).bind fun p => match p.1 with
    | .bool true => g p.2
    | .bool false => some (.bool false, p.2)
    | _ => none : Option (PyData × En)) = _
  congr 1
@[simp] theorem reOr : eOr f g e = (f e).bind fun p => ifB p.1 (some (.bool true, p.2)) (g p.2) := by
  show ((f e).bind fun p => match p.1 with
    | .bool true => some (.bool true, p.2)
    | .bool false => g p.2
    | _ => none : Option (PyData × En)) = _
  congr 1
@[simp] theorem reIf : eIf fb f g e = (fb e).bind fun p => if p.1 = true then f p.2 else g p.2 := rfl
@[simp] theorem rChain {g1 g2 : PyData → PyData → Option PyData} : eChain g1 g2 f g h e = (f e).bind fun p => (g p.2).bind fun q => (g1 p.1 q.1).bind fun r => ifB r ((h q.2).bind fun t => (g2 q.1 t.1).bind fun z => some (z, t.2)) (some (.bool false, q.2)) := by
  show ((f e).bind fun p => (g p.2).bind fun q => (g1 p.1 q.1).bind fun r => match r with
    | .bool true => (h q.2).bind fun t => (g2 q.1 t.1).bind fun z => some (z, t.2)
    | .bool false => some (.bool false, q.2)
    | _ => none : Option (PyData × En)) = _
  congr 1
@[simp] theorem rqVar : qVar j e = some (e.getD j .none) := rfl
@[simp] theorem rqC : qC d e = some d := rfl
@[simp] theorem rq1 {gg : PyData → Option PyData} : DL.q1 gg fq e = (fq e).bind gg := rfl
@[simp] theorem rq2 {gg : PyData → PyData → Option PyData} : DL.q2 gg fq gq e = (fq e).bind fun x => (gq e).bind fun y => gg x y := rfl
@[simp] theorem reQ : eQ fq e = (fq e).bind fun d => (grd (scD d)).bind fun _ => some (d, e) := by
  show ((fq e).bind fun d => if scD d = true then some (d, e) else none) = _
  congr 1; funext d; unfold grd; split <;> rfl
@[simp] theorem rbQ : bQ fq e = (fq e).bind fun d => (gTruth d).bind fun b => some (b, e) := by
  show ((fq e).bind fun d => (gTruth d).map fun b => (b, e)) = _
  congr 1; funext d; cases gTruth d <;> rfl
@[simp] theorem rbQT : bQT fq e = (fq e).bind fun d => (asB d).bind fun b => some (b, e) := by
  show ((fq e).bind fun d => match d with | .bool b => some (b, e) | _ => none : Option (Bool × En)) = _
  congr 1; funext d; cases d <;> rfl
@[simp] theorem rqS : qS fq e = (fq e).bind fun d => (grd (scD d)).bind fun _ => some d := by
  show ((fq e).bind fun d => if scD d = true then some d else none) = _
  congr 1; funext d; unfold grd; split <;> rfl
@[simp] theorem rpVar : pVar j e d = e.set j d := rfl
@[simp] theorem rSub1 : gSub1 gq gi e = (gq e).bind fun d => (gi e).bind fun i => itemD d i := rfl
@[simp] theorem rpSub1 : pSub1 gq gi pt e d = pt e (setD ((gq e).getD .none) ((gi e).getD .none) d) := rfl
@[simp] theorem rItm : eItm gq gi e = (gq e).bind fun d => (gi e).bind fun i => (itemD d i).bind fun x => some (x, e) := by
  show ((gq e).bind fun d => (gi e).bind fun i => (itemD d i).map fun x => (x, e)) = _
  congr 1; funext d; congr 1; funext i; cases itemD d i <;> rfl
@[simp] theorem rItmG : eItmG j f e = (f e).bind fun p => (itemD (p.2.getD j .none) p.1).bind fun x => some (x, p.2) := by
  show ((f e).bind fun p => (itemD (p.2.getD j .none) p.1).map fun x => (x, p.2)) = _
  congr 1; funext p; cases itemD (p.2.getD j .none) p.1 <;> rfl
@[simp] theorem rApp : eApp j f e = (f e).bind fun p => (gApp (e.getD j .none) p.1).bind fun l => some (.none, p.2.set j l) := by
  show ((f e).bind fun p => match e.getD j .none with
    | .list ds => if ds.length < sizeLine then some (.none, p.2.set j (.list (ds ++ [p.1]))) else none
    | _ => none : Option (PyData × En)) = _
  congr 1; funext p
  unfold gApp
  cases e.getD j .none with
  | list ds => show (if _ then _ else _) = (if _ then _ else _ : Option PyData).bind _; split <;> rfl
  | _ => rfl
@[simp] theorem rAppV : eAppV gq pt gi e = (gq e).bind fun d => (gi e).bind fun x => (gApp d x).bind fun l => some (.none, pt e l) := by
  show ((gq e).bind fun d => (gi e).bind fun x => match d with
    | .list ds => if ds.length < sizeLine then some (.none, pt e (.list (ds ++ [x]))) else none
    | _ => none : Option (PyData × En)) = _
  congr 1; funext d; congr 1; funext x
  unfold gApp
  cases d with
  | list ds => show (if _ then _ else _) = (if _ then _ else _ : Option PyData).bind _; split <;> rfl
  | _ => rfl
@[simp] theorem rPop : ePop gq pt e = (gq e).bind fun d => (gPop d).bind fun p => some (p.1, pt e p.2) := by
  show ((gq e).bind fun d => match d with
    | .list ds => (ds[ds.length - 1]?).map fun x => (x, pt e (.list ds.dropLast))
    | _ => none : Option (PyData × En)) = _
  congr 1; funext d
  unfold gPop
  cases d with
  | list ds => show (ds[ds.length - 1]?).map _ = ((ds[ds.length - 1]?).bind _).bind _; cases ds[ds.length - 1]? <;> rfl
  | _ => rfl
@[simp] theorem rPopAt : ePopAt gq pt gi e = (gq e).bind fun d => (gi e).bind fun i => (gPopAt d i).bind fun p => some (p.1, pt e p.2) := by
  show ((gq e).bind fun d => (gi e).bind fun i => match d, i with
    | .list ds, .int k => if -(2 ^ 63) ≤ k ∧ k < 2 ^ 63 then (ixN ds.length k).bind fun j => (ds[j]?).map fun x => (x, pt e (.list (ds.eraseIdx j))) else none
    | _, _ => none : Option (PyData × En)) = _
  congr 1; funext d; congr 1; funext i
  unfold gPopAt
  cases d <;> cases i <;> first | rfl | skip
  rename_i ds k
  show (if _ then _ else _) = (if _ then _ else _ : Option (PyData × PyData)).bind _
  split
  · cases ixN ds.length k with
    | none => rfl
    | some j => show (ds[j]?).map _ = ((ds[j]?).bind _).bind _; cases ds[j]? <;> rfl
  · rfl
@[simp] theorem reNotT : eNotT fb e = (fb e).bind fun p => some (.bool (!p.1), p.2) := rfl
@[simp] theorem rPopG : ePopG j f e = (f e).bind fun p => (gPopAt (p.2.getD j .none) p.1).bind fun q => some (q.1, p.2.set j q.2) := rfl
@[simp] theorem rExt : eExt j f e = (f e).bind fun p => (gExt (p.2.getD j .none) p.1).bind fun l => some (.none, p.2.set j l) := rfl
@[simp] theorem rsSet : sSet gq pt gi f e = (f e).bind fun p => (gq p.2).bind fun d => (gi p.2).bind fun i => (gSet d i p.1).bind fun l => some (.nx, pt p.2 l) := by
  show ((f e).bind fun p => (gq p.2).bind fun d => (gi p.2).bind fun i => match d, i with
    | .list ds, .int k => (ixN ds.length k).map fun j => (.nx, pt p.2 (.list (ds.set j p.1)))
    | _, _ => none : Option (Out × En)) = _
  congr 1; funext p; congr 1; funext d; congr 1; funext i
  unfold gSet
  cases d <;> cases i <;> first | rfl | skip
  rename_i ds k
  show (ixN ds.length k).map _ = ((ixN ds.length k).bind _).bind _
  cases ixN ds.length k <;> rfl
@[simp] theorem reSl {gg : PyData → Option Int → Option Int → Option PyData} {l u : Of} : eSl gg a l u e = (a e).bind fun p => (l p.2).bind fun q => (u q.2).bind fun r => (gg p.1 q.1 r.1).bind fun d => some (d, r.2) := rfl
@[simp] theorem roNone : oNone e = some (none, e) := rfl
@[simp] theorem roSome : oSome f e = (f e).bind fun p => (prt p.1).bind fun i => some (i, p.2) := rfl
@[simp] theorem reLenQ : eLenQ j e = (gLenL (e.getD j .none)).bind fun d => some (d, e) := by
  show (match e.getD j .none with | .list xs => some (.int xs.length, e) | _ => none : Option (PyData × En)) = _
  cases e.getD j .none <;> rfl
@[simp] theorem reSlQ {lo hi : Option Int} : eSlQ j lo hi e = (gSlL (e.getD j .none) lo hi).bind fun d => some (d, e) := by
  show (gSlL (e.getD j .none) lo hi).map (fun d => (d, e)) = _
  cases gSlL (e.getD j .none) lo hi <;> rfl
@[simp] theorem rsNil : sNil e = some (.nx, e) := rfl
@[simp] theorem rsSeq : sSeq sf sg e = (sf e).bind fun p => seqR p sg := by
  show ((sf e).bind fun p => match p.1 with
    | .nx => sg p.2
    | o => some (o, p.2) : Option (Out × En)) = _
  congr 1
@[simp] theorem rsIf : sIf fb sf sg e = (fb e).bind fun p => if p.1 = true then sf p.2 else sg p.2 := rfl
@[simp] theorem rsRet : sRet f e = (f e).bind fun p => some (.rt p.1, p.2) := by
  show (f e).map _ = _
  cases f e <;> rfl
@[simp] theorem rsRetN : sRetN e = some (.rt .none, e) := rfl
@[simp] theorem rsBrk : sBrk e = some (.bk, e) := rfl
@[simp] theorem rsCnt : sCnt e = some (.ct, e) := rfl
@[simp] theorem rsNever : sNever e = none := rfl
@[simp] theorem rsDrop : sDrop f e = (f e).bind fun p => some (.nx, p.2) := by
  show (f e).map _ = _
  cases f e <;> rfl
@[simp] theorem rsAsg : sAsg j f e = (f e).bind fun p => some (.nx, p.2.set j p.1) := by
  show (f e).map _ = _
  cases f e <;> rfl
@[simp] theorem rsAug {gg : PyData → PyData → Option PyData} : sAug j gg f e = (f e).bind fun p => (gg (p.2.getD j .none) p.1).bind fun d => some (.nx, p.2.set j d) := by
  show ((f e).bind fun p => (gg (p.2.getD j .none) p.1).map fun d => (.nx, p.2.set j d) : Option (Out × En)) = _
  congr 1; funext p; cases gg (p.2.getD j .none) p.1 <;> rfl
@[simp] theorem rsTg : sTg f gf e = (f e).bind fun p => (gf p.1 p.2).bind fun e' => some (.nx, e') := by
  show ((f e).bind fun p => (gf p.1 p.2).map fun e' => (.nx, e') : Option (Out × En)) = _
  congr 1; funext p; cases gf p.1 p.2 <;> rfl
@[simp] theorem rsPar {i : Nat} : sPar i j fr e = (fr e).bind fun p => two p.1 fun x y => some (.nx, (p.2.set i x).set j y) := rfl
@[simp] theorem rsPar3 {i l : Nat} : sPar3 i j l fr e = (fr e).bind fun p => three p.1 fun x y z => some (.nx, ((p.2.set i x).set j y).set l z) := rfl
@[simp] theorem rsFor {it : Lf} : sFor it gf sf e = (it e).bind fun p => forL gf sf p.1 p.2 := rfl
@[simp] theorem rsWh {n : Nat} : sWh n fb sf e = whL fb sf n e := rfl
@[simp] theorem riFg {js : List Nat} {lf : Lf} : iFg js lf e = (lf e).bind fun p => some (p.1, fgE js p.2) := rfl
@[simp] theorem rsPre {js : List Nat} : sPre js sf e = sf (fgE js e) := rfl
@[simp] theorem rsPost {js jr : List Nat} : sPost js jr sf e = (sf e).bind fun p => some (p.1, outE js jr p.1 p.2) := rfl
@[simp] theorem reLc {it : Lf} {vs : List Nat} : eLc it vs gf fb f e = (it e).bind fun p => (lcL vs gf fb f p.1 p.2).bind fun q => some (.list q.1, restE p.2 q.2 vs) := rfl
@[simp] theorem rbYes : bYes e = some (true, e) := rfl
@[simp] theorem rlcB {vs : List Nat} : lcB vs gf fb f d e = (gf d e).bind fun e1 => (fb e1).bind fun p => if p.1 = true then (f p.2).bind fun q => some (some q.1, restE e q.2 vs) else some (none, restE e p.2 vs) := rfl
@[simp] theorem riSeq : iSeq f e = (f e).bind fun p => (seqD p.1).bind fun ds => some (ds, p.2) := rfl
@[simp] theorem riEn : iEn f e = (f e).bind fun p => (gEn p.1).bind fun ds => some (ds, p.2) := by
  show ((f e).bind fun p => (seqD p.1).bind fun ds => some (enumD 0 ds, p.2)) = _
  congr 1; funext p; unfold gEn; cases seqD p.1 <;> rfl
@[simp] theorem riZp : iZp f g e = (f e).bind fun p => (g p.2).bind fun q => (zipS p.1 q.1).bind fun ds => some (ds, q.2) := rfl
@[simp] theorem riR1 : iR1 f e = (f e).bind fun p => (rng1 p.1).bind fun ds => some (ds, p.2) := rfl
@[simp] theorem riR2 : iR2 f g e = (f e).bind fun p => (g p.2).bind fun q => (rng2 p.1 q.1).bind fun ds => some (ds, q.2) := rfl
@[simp] theorem rLsR {lf : Lf} : eLsR lf e = (lf e).bind fun p => some (.list p.1, p.2) := by
  show (lf e).map _ = _
  cases lf e <;> rfl
@[simp] theorem rTpR {lf : Lf} : eTpR lf e = (lf e).bind fun p => some (.tuple p.1, p.2) := by
  show (lf e).map _ = _
  cases lf e <;> rfl
@[simp] theorem rgNm : gNm j d e = some (e.set j d) := rfl
@[simp] theorem rgTp2 : gTp 2 (gsCons gf (gsCons gf2 gsNil)) d e = (un2 d).bind fun p => (gf p.1 e).bind fun e => gf2 p.2 e := by
  unfold gTp un2
  cases d with
  | tuple ds =>
    match ds with
    | [] => rfl
    | [a] => rfl
    | [a, b] =>
      show ((gf a e).bind fun e' => (gf2 b e').bind fun e'' => some e'') = _
      simp only [Option.bind_some]
      congr 1; funext e'; cases gf2 b e' <;> rfl
    | a :: b :: c :: r => show (if (a :: b :: c :: r).length = 2 then _ else _) = _; rw [if_neg (by simp)]; rfl
  | _ => rfl
@[simp] theorem rgTp3 : gTp 3 (gsCons gf (gsCons gf2 (gsCons gf3 gsNil))) d e = (un3 d).bind fun p => (gf p.1 e).bind fun e => (gf2 p.2.1 e).bind fun e => gf3 p.2.2 e := by
  unfold gTp un3
  cases d with
  | tuple ds =>
    match ds with
    | [] => rfl
    | [a] => rfl
    | [a, b] => rfl
    | [a, b, c] =>
      show ((gf a e).bind fun e' => (gf2 b e').bind fun e'' => (gf3 c e'').bind fun e''' => some e''') = _
      simp only [Option.bind_some]
      congr 1; funext e'; congr 1; funext e''; cases gf3 c e'' <;> rfl
    | a :: b :: c :: x :: r => show (if (a :: b :: c :: x :: r).length = 3 then _ else _) = _; rw [if_neg (by simp)]; rfl
  | _ => rfl
@[simp] theorem rgTp4 : gTp 4 (gsCons gf (gsCons gf2 (gsCons gf3 (gsCons gf4 gsNil)))) d e = (un4 d).bind fun p => (gf p.1 e).bind fun e => (gf2 p.2.1 e).bind fun e => (gf3 p.2.2.1 e).bind fun e => gf4 p.2.2.2 e := by
  unfold gTp un4
  cases d with
  | tuple ds =>
    match ds with
    | [] => rfl
    | [a] => rfl
    | [a, b] => rfl
    | [a, b, c] => rfl
    | [a, b, c, z] =>
      show ((gf a e).bind fun e' => (gf2 b e').bind fun e'' => (gf3 c e'').bind fun e''' => (gf4 z e''').bind fun e4 => some e4) = _
      simp only [Option.bind_some]
      congr 1; funext e'; congr 1; funext e''; congr 1; funext e3; cases gf4 z e3 <;> rfl
    | a :: b :: c :: x :: y :: r => show (if (a :: b :: c :: x :: y :: r).length = 4 then _ else _) = _; rw [if_neg (by simp)]; rfl
  | _ => rfl
@[simp] theorem rrest0 : restE e e' [] = e' := rfl
@[simp] theorem rrest1 {v : Nat} {vs : List Nat} : restE e e' (v :: vs) = restE e (e'.set v (e.getD v .none)) vs := rfl
@[simp] theorem rgd0 {x : PyData} : List.getD (x :: e) 0 d = x := rfl
@[simp] theorem rgdS {x : PyData} : List.getD (x :: e) (j + 1) d = List.getD e j d := rfl
@[simp] theorem rRun {f : Sf} {ptys : List Ty} {r : Nat} {ds : List PyData} : runF f ptys r ds = (f (ds ++ List.replicate r .none)).bind fun p => retR ptys ds p := by
  show ((f (ds ++ List.replicate r .none)).bind fun p => match p.1 with
    | .rt d => some (d, fins ptys ds p.2)
    | .nx => some (.none, fins ptys ds p.2)
    | _ => none : Option (PyData × List PyData)) = _
  congr 1
@[simp] theorem rep0 {x : PyData} : List.replicate 0 x = [] := rfl
@[simp] theorem repS {x : PyData} {n : Nat} : List.replicate (n + 1) x = x :: List.replicate n x := rfl
@[simp] theorem finS {t : Ty} {ts : List Ty} {d e : PyData} {ds es : List PyData} : fins (t :: ts) (d :: ds) (e :: es) = (if stb t = true then d else e) :: fins ts ds es := rfl
@[simp] theorem finN {ds es : List PyData} : fins [] ds es = [] := rfl
@[simp] theorem stbs : stb .s = true := rfl
@[simp] theorem stbq : stb .q = true := rfl
@[simp] theorem stbl {t : Ty} : stb (.l t) = false := rfl
@[simp] theorem stbr {t : List Ty} : stb (.r t) = false := rfl
end
end DL

namespace DL
open PySem L2 PySem.Spec

/-! ### run lemmas, second part -/
section
variable {e : En} {f g h : Ef} {j : Nat}
@[simp] theorem reDGet : eDGet j f e = (f e).bind fun p => (gDGet (p.2.getD j .none) p.1).bind fun d => some (d, p.2) := rfl
@[simp] theorem reDOp {gg : PyData → PyData → Option PyData} : eDOp gg j f e = (f e).bind fun p => (gg (p.2.getD j .none) p.1).bind fun d => some (d, p.2) := rfl
@[simp] theorem reDGet2 : eDGet2 j f h e = (f e).bind fun p => (h p.2).bind fun q => (gDGet2 (q.2.getD j .none) p.1 q.1).bind fun d => some (d, q.2) := rfl
@[simp] theorem rsDPutD : sDPutD j g f e = (f e).bind fun p => (g p.2).bind fun q => (gDPut (q.2.getD j .none) q.1 p.1).bind fun d => some (.nx, q.2.set j d) := rfl
@[simp] theorem rgItm {gi : Gq} {d : PyData} : gItm j gi d e = (gi e).bind fun i => (gSet (e.getD j .none) i d).bind fun l => some (e.set j l) := by
  show ((gi e).bind fun i => match e.getD j .none, i with
    | .list ds, .int k => (ixN ds.length k).map fun z => e.set j (.list (ds.set z d))
    | _, _ => none) = _
  congr 1; funext i
  unfold gSet
  cases e.getD j .none <;> cases i <;> first | rfl | skip
  rename_i ds k
  show (ixN ds.length k).map _ = ((ixN ds.length k).bind _).bind _
  cases ixN ds.length k <;> rfl
end
end DL

namespace DL
open PySem L2 PySem.Spec

/-! ### what a def that may raise gives -/
inductive Res where
  | ok (d : PyData)
  | ex (c : Str) (fs : List (Str × PyData))
abbrev DFnX := List PyData → Option Res
/-- an exception of the class named c, its fields stable -/
def ExAt (K : PySem.W.Frag) (mg : Str → Option Value) (G : Hp) (c : Str) (fs : List (Str × PyData)) (cls : Value) (dx : Option Addr) : Prop :=
  ∃ C fv, mg c = some (.ref C) ∧ cls = .ref C ∧ (∀ x, dx = some x → G x = some (.xd fv)) ∧ (dx = none → fs = []) ∧ fv.map (·.1) = fs.map (·.1) ∧ DqA K G (fv.map (·.2)) (fs.map (·.2))
theorem ExAt.mono {K : PySem.W.Frag} {mg : Str → Option Value} {G G' : Hp} {c : Str} {fs : List (Str × PyData)} {cls : Value} {dx : Option Addr} (e : Same G G') (h : ExAt K mg G c fs cls dx) : ExAt K mg G' c fs cls dx := by
  obtain ⟨C, fv, h1, h2, h3, h4, h5, h6⟩ := h
  exact ⟨C, fv, h1, h2, fun x hx => e _ _ (h3 x hx), h4, h5, h6.mono e⟩
def spX (K : PySem.W.Frag) (mg : Str → Option Value) (ptys : List Ty) (rty : Ty) (Fn : DFnX) : Sp := fun vs H Q E =>
  ∃ (ds : List PyData) (r : Res) (G : Hp), Fn ds = some r ∧ OwnA K G H ptys ds (vs.map some) [] ∧ Same G H ∧ match r with
    | .ok d => ∀ (G' H' : Hp) (v : V) (Av : List Addr), Step [] G H Av G' H' → Own K G' H' rty d (some v) Av → Av.Nodup → Same G' H' → Q v H'
    | .ex c fs => ∀ (G' H' : Hp) (cls : Value) (dx : Option Addr), Step [] G H [] G' H' → ExAt K mg G' c fs cls dx → Same G' H' → E cls dx H'
/-- the promise of a def that may raise, kept wherever no text of an object is under way -/
structure FnX (P : Program) (w : World) (K : PySem.W.Frag) (mg : Str → Option Value) (base : Heap) (k : Nat) (f : Addr) (fd : FuncData) (ps : List Str) (sp : Sp) : Prop where
  len : ∀ vs H Q E, sp vs H Q E → vs.length = ps.length
  run : ∀ (A : Around) (outer : List Env) (s : Shared) (H : Hp) (args : Args) (us : List Value) (vs : List V) (Q : VK) (E : XK), Room k A → A.guards = some [] → Env0 P w K mg base A outer s H → BindsTo s fd args (ps.zip us) → Vals vs us → sp vs H Q E →
    codeAny (model P w) A (.call (.ref f) args) (CR (L2.CX P w) outer P w H s Q E) s
structure CalX (P : Program) (w : World) (K : PySem.W.Frag) (mg : Str → Option Value) (base : Heap) (k : Nat) (x : Str) (ptys : List Ty) (rty : Ty) (Fn : DFnX) : Prop where
  ex : ∃ (f : Addr) (fd : FuncData) (ps : List Str), FnX P w K mg base k f fd ps (spX K mg ptys rty Fn) ∧ mg x = some (.ref f) ∧ PySem.W.keepIn K (.ref f) = true ∧ Binds K fd ps []
theorem fnX_of {P : Program} {w : World} {K : PySem.W.Frag} {mg : Str → Option Value} {base : Heap} {x qual : Str} {st : Stmt} {f : Addr} {fd : FuncData} {N ps : List Str} {k : Nat} {sp : Sp} (F : L2.Fun K x qual st f fd) (S : FnScope N ps (defScope st)) (len : ∀ vs H Q E, sp vs H Q E → vs.length = ps.length)
    (hbody : ∀ (cv : Value) (A : Around) (outer : List Env) (s : Shared) (H : Hp) (vs : List V) (Q : VK) (E : XK), Room k (A.deeper (PyProof.Rows.envOfC qual (defScope st) s.heap.objs.size f cv)) → (A.deeper (PyProof.Rows.envOfC qual (defScope st) s.heap.objs.size f cv)).guards = some [] → sp vs H Q E →
      ∃ t, PSs (cxOf (L2.CX P w) P w K mg base N qual (defScope st) f cv A outer s H E) (defBody st) t ∧ t { nx := fun _ H' => Q .non H', rt := Q } (start N vs) H) : FnX P w K mg base (k + 1) f fd ps sp := by
  obtain ⟨oc, od, kV, doc, pm, an, cv, ct, osl, rfl, lk, hcd⟩ := F.ex
  refine ⟨len, fun A outer s H args us vs Q E room gd e0 bind rel wish => ?_⟩
  have KX : K.In s.heap := e0.mod.kin.keeps fun b o e => (e0.bs b o e).1
  obtain ⟨t, bt, bq⟩ := hbody cv A outer s H vs Q E (room.deeper _) gd wish
  have kinds : ∀ y ∈ ps.zip us, (defScope st).names.lookup y.1 = some .local ∨ ((defScope st).names.lookup y.1 = some .cell ∧ ((cellsFrom (s.heap.objs.size + 1) (defScope st).names []).lookup y.1).isSome = true) := by
    rintro ⟨nm, val⟩ hy
    have hp := S.par nm (List.of_mem_zip hy).1
    exact hp.imp id fun c => ⟨c, PySem.W.cellsFrom_some _ _ _ (.inl c)⟩
  refine codeAny_call_function room.depth (KX _ _ lk) rfl S.co S.gen rfl (PySem.W.codeRec_of KX hcd) (bind _ _ _ _ ?_)
  refine wpAny_newFunctionEnv_cells S.kind kinds fun env he s1 ic => ?_
  subst he
  have lim := e0.mod.nolimit.keeps fun b o e => (e0.bs b o e).1
  refine ⟨Heap.NoLimit.keeps lim ic.toInCall.keep, codeAny_func ?_⟩
  have I0 := inv_start (CX := L2.CX P w) (E := E) S room.hd e0 (len _ _ _ _ wish) rel ic
  refine wpAny_mono (bt.run [] s1 _ H _ I0 bq) ?_ fun e s' z => z
  intro fl s' z
  cases fl with
  | ret u => obtain ⟨v, σ', H', J, rv, q⟩ := z; exact ⟨v, H', J.os, J.bare, J.base, J.hok, rv, q⟩
  | next => obtain ⟨σ', H', J, q⟩ := z; exact ⟨V.non, H', J.os, J.bare, J.base, J.hok, rfl, q⟩
  | brk => obtain ⟨_, _, _, q⟩ := z; exact q.elim
  | cont => obtain ⟨_, _, _, q⟩ := z; exact q.elim
/-- its call, where what is raised is taken -/
theorem run_fnX {X : Cx} {W : WX} {k : Nat} {fa : Addr} {fd : FuncData} {ps : List Str} {sp : Sp} {pins : List (Addr × Obj)} {σ : St} {H : Hp} {s : Shared} {Q : VK} {us : List Value} {vs : List V} (Fn : FnX X.prog X.w X.K X.mg X.base k fa fd ps sp) (tk : Takes X W) (hr : Room k X.A) (hg : X.A.guards = some []) (hb : Binds X.K fd ps [])
    (I : L2.Inv X pins σ H s) (r : Vals vs us) (h : sp vs H Q (WE W σ)) : wpAny (model X.prog X.w) X.A (call (.ref fa) us) (EP X pins σ Q) X.xe s := by
  have hl : (us ++ []).length = ps.length := by rw [List.append_nil, ← r.length]; exact Fn.len _ _ _ _ h
  have hb' := hb s us I.kIn hl
  rw [List.append_nil] at hb'
  refine wpAny_call (codeAny_mono (Fn.run X.A X.stack s H ⟨us, []⟩ us vs Q (WE W σ) hr hg I.env0 hb' r h) ?_)
  intro z s' hq
  match z, hq with
  | .ok (.ret u), hq => exact I.after hq
  | .error e, hq => exact passAt tk σ pins H s e s' I hq
  | .ok .next, hq => exact False.elim hq
  | .ok .brk, hq => exact False.elim hq
  | .ok .cont, hq => exact False.elim hq

/-! ### expressions that may raise -/
abbrev EfX := En → Option (Res × En)
def DEX (K : PySem.W.Frag) (mg : Str → Option Value) (m : List Ty) (te : TE) (ty : Ty) (f : EfX) (m' : List Ty) (W : WX) : Prop :=
  ∀ {G H : Hp} {σ : St} {e : En} {A : List Addr} {r : Res} {e' : En} {Q : VK}, Stt K m G H σ e A → f e = some (r, e') →
    (match r with
    | .ok d => ∀ (G' H' : Hp) (v : V) (Av A' : List Addr), Step A G H (Av ++ A') G' H' → Stt K m' G' H' σ e' A' → Own K G' H' ty d (some v) Av → (Av ++ A').Nodup → Q v H'
    | .ex c fs => ∀ (G' H' : Hp) (A' : List Addr) (cls : Value) (dx : Option Addr), Step A G H A' G' H' → Stt K m' G' H' σ e' A' → ExAt K mg G' c fs cls dx → W cls dx σ H') → te σ H Q
structure PDX {ι : Type} (Xf : ι → Cx) (W : WX) (K : PySem.W.Frag) (mg : Str → Option Value) (m : List Ty) (e : Expr) (ty : Ty) (f : EfX) (m' : List Ty) : Prop where
  ex : ∃ te : TE, (∀ i, PE (Xf i) e te) ∧ DEX K mg m te ty f m' W
/-- what is raised in such a context is taken -/
class FamT {ι : Type} (Xf : ι → Cx) (W : outParam WX) : Prop where
  tk : ∀ i, Takes (Xf i) W
def xCall (Fn : DFnX) (r : Lf) : EfX := fun e => (r e).bind fun p => (Fn p.1).bind fun q => some (q, p.2)
def xOk (f : Ef) : EfX := fun e => (f e).bind fun p => some (.ok p.1, p.2)
/-- [a, f(..)] -/
def xLst2 (f : Ef) (g : EfX) : EfX := fun e => (f e).bind fun p => (g p.2).bind fun q => match q.1 with
  | .ok d => some (.ok (.list [p.1, d]), q.2)
  | .ex c fs => some (.ex c fs, q.2)
def okD : Res → Option PyData
  | .ok d => some d
  | _ => none
section
variable {ι : Type} {Xf : ι → Cx} {W : WX} {P : Program} {w : World} {K : PySem.W.Frag} {mg : Str → Option Value} {base : Heap} {n : Nat} [F : Fam Xf P w K mg base n] [FG : FamG Xf]
variable {m m1 m2 m3 : List Ty} {pos p p2 : Pos} {a b c : Expr} {es : List Expr} {f g h : Ef} {gx : EfX} {fr : Lf} {ty : Ty} {tys : List Ty} {L : List (Option Nat)}
include F FG in
theorem pe_callX [FT : FamT Xf W] {k : Nat} {x : Str} {rty : Ty} {Fn : DFnX} (c : CalX P w K mg base k x tys rty Fn) (hk : k ≤ n) (i : ι) {t : TA} (hg : Gl (Xf i) x) (ha : PA (Xf i) (a :: es) t)
    (hdb : (x == ("__debug__" : Str)) = false := by decide) (he : starEach (a :: es) (Xf i).env = (false, eval a (Xf i).env) :: starEach es (Xf i).env := by rfl) (hpl : (backTo pos (starEach es (Xf i).env)).any (·.1) = false := by rfl) :
    PE (Xf i) (.Call (.Name x p) (a :: es) [] pos) (tCallS (spX K mg tys rty Fn) (WE W) t) := by
  obtain ⟨fa, fd, ps, FN, hm, kp, b⟩ := c.ex
  have e1 := F.prog i
  have e2 := F.w_ i
  have e3 := F.kk i
  have e4 := F.mg_ i
  have e5 := F.base_ i
  refine ⟨fun pins s σ H Q I h => ?_⟩
  refine wpAny_Call_Name_kw (ld_glob I hg (by rw [e4]; exact hm) ?_ hdb)
  refine PySem.W.callWith_K (h₀ := (Xf i).base) I.ok.mod.kin (by rw [e3]; exact kp) (thn (ha.run pos pins s σ H _ I h) fun us s1 ⟨vs, H1, I1, r1, q1⟩ => ⟨I1.kIn, ?_⟩) he hpl
  subst e1 e2 e3 e4 e5
  exact run_fnX FN (FT.tk i) ((rmOf F FG i).mono hk) (FG.gd i) b I1 r1 q1
theorem stab_nil {K : PySem.W.Frag} {G H : Hp} : ∀ {ts : List Ty} {ds : List PyData} {vs : List (Option V)} {A : List Addr}, OwnA K G H ts ds vs A → (∀ t ∈ ts, stb t = true) → A = []
  | [], _, _, _, o, _ => by cases o; rfl
  | t :: ts, _, _, _, o, h => by
    cases o with
    | cons h1 h2 => rw [own_stb h1 (h t (List.mem_cons_self ..)), stab_nil h2 fun x hx => h x (List.mem_cons_of_mem _ hx)]; rfl
include F FG in
theorem px_call [FT : FamT Xf W] {k : Nat} {x : Str} {rty : Ty} {Fn : DFnX} (c : CalX P w K mg base k x tys rty Fn) (ha : PAL Xf K m (a :: es) tys L fr m1) (hst : ∀ t ∈ tys, stb t = true := by decide) (hk : k ≤ n := by decide) (hg : ∀ i, Gl (Xf i) x := by intro _; rfl)
    (hdb : (x == ("__debug__" : Str)) = false := by decide) (he : ∀ i, starEach (a :: es) (Xf i).env = (false, eval a (Xf i).env) :: starEach es (Xf i).env := by intro _; rfl) (hpl : ∀ i, (backTo pos (starEach es (Xf i).env)).any (·.1) = false := by intro _; rfl) :
    PDX Xf W K mg m (.Call (.Name x p) (a :: es) [] pos) rty (xCall Fn fr) m1 := by
  obtain ⟨ta, pa, da⟩ := ha.ex
  refine ⟨_, fun i => pe_callX c hk i (hg i) (pa i) hdb (he i) (hpl i), fun {G H σ e A r e' Q} st hf k' => ?_⟩
  unfold xCall at hf
  obtain ⟨⟨ds, e1⟩, hf1, hf⟩ := Option.bind_eq_some_iff.mp hf
  obtain ⟨r1, hf2, hf⟩ := Option.bind_eq_some_iff.mp hf
  cases hf
  refine da st hf1 fun G1 H1 vs A1 B1 s1 st1 o1 nd1 _ => ?_
  have z1 := stab_nil o1 hst
  subst z1
  rw [List.nil_append] at s1 nd1
  refine ⟨ds, r, G1, hf2, o1, st1.sub, ?_⟩
  have s1' : Step A G H (B1 ++ []) G1 H1 := by rw [List.append_nil]; exact s1
  have nd1' : (B1 ++ []).Nodup := by rw [List.append_nil]; exact nd1
  cases r with
  | ok d =>
    intro G2 H2 v Av s2 ov ndv sub2
    obtain ⟨s3, nd3, hg', hh'⟩ := s1'.seq (ownA_at st1.own) nd1' s2 ndv
    have st2 : Stt K m1 G2 H2 σ e1 B1 := ⟨ownA_fr st1.own s2.sg hg' hh', st1.nd, sub2⟩
    have n3 := List.nodup_append.mp nd3
    refine k' G2 H2 v Av B1 (s3.less fun a ha => ?_) st2 ov (List.nodup_append.mpr ⟨n3.2.1, n3.1, fun a ha b hb z => n3.2.2 b hb a ha z.symm⟩)
    rcases List.mem_append.mp ha with z | z
    · exact List.mem_append_right _ z
    · exact List.mem_append_left _ z
  | ex c fs =>
    intro G2 H2 cls dx s2 ex sub2
    obtain ⟨s3, nd3, hg', hh'⟩ := s1'.seq (ownA_at st1.own) nd1' s2 List.nodup_nil
    have st2 : Stt K m1 G2 H2 σ e1 B1 := ⟨ownA_fr st1.own s2.sg hg' hh', st1.nd, sub2⟩
    exact k' G2 H2 B1 cls dx (s3.less fun a ha => List.mem_append_left _ ha) st2 ex
/-- a call that does not raise here -/
theorem px_ok (ha : PD Xf K m a ty f m1) : PDX Xf W K mg m a ty (xOk f) m1 := by
  obtain ⟨te, pe, de⟩ := ha.ex
  refine ⟨te, pe, fun {G H σ e A r e' Q} st hf k => ?_⟩
  unfold xOk at hf
  obtain ⟨⟨d, e1⟩, hf1, hf⟩ := Option.bind_eq_some_iff.mp hf
  cases hf
  exact de st hf1 k
/-- taken for sure: what is raised is nothing here -/
theorem pd_sure (hx : PDX Xf (fun _ _ _ _ => False) K mg m a ty gx m1) : PD Xf K m a ty (fun e => (gx e).bind fun p => (okD p.1).bind fun d => some (d, p.2)) m1 := by
  obtain ⟨te, pe, de⟩ := hx.ex
  refine ⟨te, pe, fun {G H σ e A d e' Q} st hf k => ?_⟩
  obtain ⟨⟨r, e1⟩, hf1, hf⟩ := Option.bind_eq_some_iff.mp hf
  obtain ⟨d1, hf2, hf⟩ := Option.bind_eq_some_iff.mp hf
  cases hf
  cases r with
  | ok d2 => cases hf2; exact de st hf1 k
  | ex c fs => cases hf2
theorem px_lst2 (ha : PD Xf K m a .s f m1) (hb : PDX Xf W K mg m1 b .s gx m2) (hs : ∀ i, starEach [a, b] (Xf i).env = (false, eval a (Xf i).env) :: starEach [b] (Xf i).env := by intro _; rfl) (hs2 : ∀ i, starEach [b] (Xf i).env = (false, eval b (Xf i).env) :: starEach [] (Xf i).env := by intro _; rfl) :
    PDX Xf W K mg m (.List [a, b] pos) (.l .s) (xLst2 f gx) m2 := by
  obtain ⟨ta, pa, da⟩ := ha.ex
  obtain ⟨tb, pb, db⟩ := hb.ex
  refine ⟨tLst (tCons ta (tCons tb tNil)), fun i => pe_lst (pa_cons (pa i) (pa_cons (pb i) pa_nil (hs2 i)) (hs i)), fun {G H σ e A r e' Q} st hf k => ?_⟩
  unfold xLst2 at hf
  obtain ⟨⟨d1, e1⟩, hf1, hf⟩ := Option.bind_eq_some_iff.mp hf
  obtain ⟨⟨r2, e2⟩, hf2, hf⟩ := Option.bind_eq_some_iff.mp hf
  refine da st hf1 fun G1 H1 v1 A1 B1 s1 st1 o1 nd1 => ?_
  cases o1 with
  | s q1 =>
    refine db st1 hf2 ?_
    cases r2 with
    | ok d2 =>
      cases hf
      intro G2 H2 v2 A2 B2 s2 st2 o2 nd2
      cases o2 with
      | s q2 =>
        refine ⟨(by show 2 ≤ sizeLine; rw [sizeLine_eq]; decide), ?_⟩
        refine ans_lst (ds := [d1, d2]) st2 (DqA.cons (q1.mono s2.sg) (DqA.cons q2 DqA.nil)) (by show 2 ≤ sizeLine; rw [sizeLine_eq]; decide) fun G3 H3 v3 A3 B3 s3 st3 o3 nd3 => ?_
        exact k G3 H3 v3 A3 B3 ((s1.seq0 s2).seq0 s3) st3 o3 nd3
    | ex c fs =>
      cases hf
      intro G2 H2 A2 cls dx s2 st2 ex
      exact k G2 H2 A2 cls dx (s1.seq0 s2) st2 ex
end

/-! ### statements that may raise -/
inductive OutX where
  | o (x : Out)
  | ex (c : Str) (fs : List (Str × PyData))
abbrev SfX := En → Option (OutX × En)
def FinX (K : PySem.W.Frag) (mg : Str → Option Value) (M : Mk) (mx : List Ty) (W : WX) (mn : List Ty) (A : List Addr) (G H : Hp) (σ : St) (D : Ends) (e' : En) : OutX → Prop
  | .o x => Fin K M mn A G H σ D e' x
  | .ex c fs => ∀ (G' H' : Hp) (σ' : St) (A' : List Addr) (cls : Value) (dx : Option Addr), Step A G H A' G' H' → Stt K mx G' H' σ' e' A' → Pin M.po σ σ' → ExAt K mg G' c fs cls dx → W cls dx σ' H'
def DSX (K : PySem.W.Frag) (mg : Str → Option Value) (M : Mk) (mx : List Ty) (W : WX) (m : List Ty) (t : TS) (f : SfX) (mn : List Ty) : Prop :=
  ∀ {G H : Hp} {σ : St} {e : En} {A : List Addr} {o : OutX} {e' : En} {D : Ends}, Stt K m G H σ e A → f e = some (o, e') → FinX K mg M mx W mn A G H σ D e' o → t D σ H
structure PSX {ι : Type} (Xf : ι → Cx) (W : WX) (K : PySem.W.Frag) (mg : Str → Option Value) (M : Mk) (mx : List Ty) (m : List Ty) (st : Stmt) (f : SfX) (mn : List Ty) : Prop where
  ex : ∃ t : TS, (∀ i, PS (Xf i) st t) ∧ DSX K mg M mx W m t f mn
structure PSXs {ι : Type} (Xf : ι → Cx) (W : WX) (K : PySem.W.Frag) (mg : Str → Option Value) (M : Mk) (mx : List Ty) (m : List Ty) (st : List Stmt) (f : SfX) (mn : List Ty) : Prop where
  ex : ∃ t : TS, (∀ i, PSs (Xf i) st t) ∧ DSX K mg M mx W m t f mn
def xO (f : Sf) : SfX := fun e => (f e).map fun p => (.o p.1, p.2)
def xSeqX (f g : SfX) : SfX := fun e => (f e).bind fun p => match p.1 with
  | .o .nx => g p.2
  | o => some (o, p.2)
def xIfX (c : Bf) (f g : SfX) : SfX := fun e => (c e).bind fun p => if p.1 = true then f p.2 else g p.2
def xAsgX (j : Nat) (f : EfX) : SfX := fun e => (f e).map fun p => match p.1 with
  | .ok d => (.o .nx, p.2.set j d)
  | .ex c fs => (.ex c fs, p.2)
def xDropX (f : EfX) : SfX := fun e => (f e).map fun p => match p.1 with
  | .ok _ => (.o .nx, p.2)
  | .ex c fs => (.ex c fs, p.2)
def xRetX (f : EfX) : SfX := fun e => (f e).map fun p => match p.1 with
  | .ok d => (.o (.rt d), p.2)
  | .ex c fs => (.ex c fs, p.2)
def xRaise (c : Str) (flds : List Str) (f : Lf) : SfX := fun e => (f e).bind fun p => if p.1.length = flds.length then some (.ex c (flds.zip p.1).reverse, p.2) else none
section
variable {K : PySem.W.Frag} {mg : Str → Option Value} {M : Mk} {G H G1 H1 : Hp} {m m1 m2 mn mx : List Ty} {W : WX} {σ σ1 : St} {e : En} {A A1 : List Addr} {D : Ends} {e' : En} {t u : TS} {ef : Ef} {bf : Bf} {lf : Lf}
theorem FinX.back {o : OutX} (s : Step A G H A1 G1 H1) (p : Pin M.po σ σ1) (h : FinX K mg M mx W mn A G H σ D e' o) : FinX K mg M mx W mn A1 G1 H1 σ1 D e' o := by
  cases o with
  | o x => exact Fin.back s p h
  | ex c fs => exact fun G' H' σ' A' cls dx s' st' p' ex => h G' H' σ' A' cls dx (s.seq0 s') st' (p.trans p') ex
theorem DSX.of {f : Sf} (h : DS K M m t f mn) : DSX K mg M mx W m t (xO f) mn := by
  intro G H σ e A o e' D st hf k
  obtain ⟨⟨x, e1⟩, hf1, hf⟩ := Option.map_eq_some_iff.mp hf
  cases hf
  exact h st hf1 k
theorem DSX.seq {f g : SfX} (h1 : DSX K mg M mx W m t f m1) (h2 : DSX K mg M mx W m1 u g mn) : DSX K mg M mx W m (tSeq t u) (xSeqX f g) mn := by
  intro G H σ e A o e' D st hf k
  obtain ⟨⟨o1, e1⟩, hf1, hf⟩ := Option.bind_eq_some_iff.mp hf
  refine h1 st hf1 ?_
  match o1, hf with
  | .o .nx, hf => exact fun G' H' σ' A' s' st' p' => h2 st' hf (k.back s' p')
  | .o .bk, hf => cases hf; exact k
  | .o .ct, hf => cases hf; exact k
  | .o (.rt d), hf => cases hf; exact k
  | .ex c fs, hf => cases hf; exact k
theorem DSX.ite {f g : SfX} {tc : TT} (hc : DT K m tc bf m1) (h1 : DSX K mg M mx W m1 t f mn) (h2 : DSX K mg M mx W m1 u g mn) : DSX K mg M mx W m (tIfS tc t u) (xIfX bf f g) mn := by
  intro G H σ e A o e' D st hf k
  obtain ⟨⟨b, e1⟩, hf1, hf⟩ := Option.bind_eq_some_iff.mp hf
  refine hc st hf1 fun G1 H1 A1 s1 st1 => ?_
  cases b with
  | true => exact h1 st1 hf (k.back s1 Pin.refl)
  | false => exact h2 st1 hf (k.back s1 Pin.refl)
theorem DSX.le {f : SfX} (h : DSX K mg M mx W m t f m1) (l : LeM m1 mn) : DSX K mg M mx W m t f mn := by
  intro G H σ e A o e' D st hf k
  refine h st hf ?_
  match o, k with
  | .o .nx, k =>
    intro G' H' σ' A' s' st' p'
    obtain ⟨G2, A2, s2, st2⟩ := stt_le l st'
    exact k G2 H' σ' A2 (s'.seq0 s2) st2 p'
  | .o .bk, k => exact k
  | .o .ct, k => exact k
  | .o (.rt d), k => exact k
  | .ex c fs, k => exact k
theorem DSX.asg {te : TE} {ty : Ty} {j : Nat} {fx : EfX} (he : DEX K mg m te ty fx m1 W) (hj : j < m1.length) (hp : j ∉ M.po) : DSX K mg M m1 W m (tAsg te (gName j)) (xAsgX j fx) (m1.set j ty) := by
  intro G H σ e A o e' D st hf k
  obtain ⟨⟨r, e1⟩, hf1, hf⟩ := Option.map_eq_some_iff.mp hf
  refine he st hf1 ?_
  match r, hf with
  | .ok d, hf =>
    cases hf
    exact fun G1 H1 v Av A1 s1 st1 o1 nd1 => by
      obtain ⟨A2, st2, hA⟩ := stt_set st1 hj o1 nd1
      exact k G1 H1 _ A2 (s1.less hA) st2 (Pin.set hp)
  | .ex c fs, hf =>
    cases hf
    exact fun G1 H1 A1 cls dx s1 st1 ex => k G1 H1 σ A1 cls dx s1 st1 Pin.refl ex
theorem DSX.drop {te : TE} {ty : Ty} {fx : EfX} (he : DEX K mg m te ty fx m1 W) : DSX K mg M m1 W m (tDrop te) (xDropX fx) m1 := by
  intro G H σ e A o e' D st hf k
  obtain ⟨⟨r, e1⟩, hf1, hf⟩ := Option.map_eq_some_iff.mp hf
  refine he st hf1 ?_
  match r, hf with
  | .ok d, hf =>
    cases hf
    exact fun G1 H1 v Av A1 s1 st1 o1 nd1 => k G1 H1 σ A1 (s1.less fun a h => List.mem_append_right _ h) st1 Pin.refl
  | .ex c fs, hf =>
    cases hf
    exact fun G1 H1 A1 cls dx s1 st1 ex => k G1 H1 σ A1 cls dx s1 st1 Pin.refl ex
theorem DSX.ret {te : TE} {fx : EfX} (he : DEX K mg m te M.ty fx m1 W) (l : LeM m1 M.r) (lx : LeM m1 mx) : DSX K mg M mx W m (tRet te) (xRetX fx) mn := by
  intro G H σ e A o e' D st hf k
  obtain ⟨⟨r, e1⟩, hf1, hf⟩ := Option.map_eq_some_iff.mp hf
  refine he st hf1 ?_
  match r, hf with
  | .ok d, hf =>
    cases hf
    exact fun G1 H1 v Av A1 s1 st1 o1 nd1 => by
      obtain ⟨G2, A2, s2, st2, o2, nd2⟩ := le_aside l s1 st1 o1 nd1
      exact k G2 H1 σ v Av A2 s2 st2 o2 nd2 Pin.refl
  | .ex c fs, hf =>
    cases hf
    exact fun G1 H1 A1 cls dx s1 st1 ex => by
      obtain ⟨G2, A2, s2, st2⟩ := stt_le lx st1
      exact k G2 H1 σ A2 cls dx (s1.seq0 s2) st2 Pin.refl (ex.mono s2.sg)
end
section
variable {ι : Type} {Xf : ι → Cx} {W : WX} {P : Program} {w : World} {K : PySem.W.Frag} {mg : Str → Option Value} {base : Heap} {n : Nat} [F : Fam Xf P w K mg base n]
variable {M : Mk} {m m1 m2 mn mx : List Ty} {pos p p2 spos : Pos} {c v : Expr} {st : Stmt} {rest body orelse : List Stmt} {f g : SfX} {sf : Sf} {bf : Bf} {ef : Ef} {fx : EfX} {ty : Ty}
theorem sxs_of (h : PSsd Xf K M m rest sf mn) : PSXs Xf W K mg M mx m rest (xO sf) mn := by
  obtain ⟨t, p, d⟩ := h.ex
  exact ⟨t, p, DSX.of d⟩
theorem sx_of (h : PSd Xf K M m st sf mn) : PSX Xf W K mg M mx m st (xO sf) mn := by
  obtain ⟨t, p, d⟩ := h.ex
  exact ⟨t, p, DSX.of d⟩
theorem sxs_cons (h1 : PSX Xf W K mg M mx m st f m1) (h2 : PSXs Xf W K mg M mx m1 rest g mn) : PSXs Xf W K mg M mx m (st :: rest) (xSeqX f g) mn := by
  obtain ⟨t, p, d⟩ := h1.ex
  obtain ⟨u, q, d2⟩ := h2.ex
  exact ⟨_, fun i => pss_cons (p i) (q i), DSX.seq d d2⟩
theorem sxs_one (h1 : PSX Xf W K mg M mx m st f mn) : PSXs Xf W K mg M mx m [st] f mn := by
  obtain ⟨t, p, d⟩ := h1.ex
  exact ⟨_, fun i => pss_one (p i), d⟩
theorem sxs_le (h : PSXs Xf W K mg M mx m rest f m1) (l : LeM m1 mn) : PSXs Xf W K mg M mx m rest f mn := by
  obtain ⟨t, p, d⟩ := h.ex
  exact ⟨_, p, d.le l⟩
theorem sx_if (hc : PB Xf K m c bf m1) (ha : PSXs Xf W K mg M mx m1 body f mn) (hb : PSXs Xf W K mg M mx m1 orelse g mn) : PSX Xf W K mg M mx m (.If c body orelse pos) (xIfX bf f g) mn := by
  obtain ⟨t, p, d⟩ := hc.ex
  obtain ⟨t1, p1, d1⟩ := ha.ex
  obtain ⟨t2, p2, d2⟩ := hb.ex
  exact ⟨_, fun i => ps_if (p i) (p1 i) (p2 i), DSX.ite d d1 d2⟩
theorem sx_drop (he : PDX Xf W K mg m v ty fx m1) (hs : ∀ i, swapsWith v none pos.line (Xf i).env = pure false := by intro _; rfl) : PSX Xf W K mg M m1 m (.Expr v pos) (xDropX fx) m1 := by
  obtain ⟨t, p, d⟩ := he.ex
  exact ⟨_, fun i => ps_expr (p i) (hs i), DSX.drop d⟩
theorem sx_ret (he : PDX Xf W K mg m v M.ty fx m1) (l : LeM m1 M.r) (lx : LeM m1 mx) : PSX Xf W K mg M mx m (.Return (some v) pos) (xRetX fx) mn := by
  obtain ⟨t, p, d⟩ := he.ex
  exact ⟨_, fun i => ps_ret (p i), DSX.ret d l lx⟩
include F in
theorem sx_asg (j : Nat) {x : Str} {pos' : Pos} (he : PDX Xf W K mg m v ty fx m1) (hj : j < m1.length := by decide) (hp : j ∉ M.po := by decide) (hi : ∀ i, (Xf i).N[j]? = some x := by intro _; rfl) (hx : ∀ i, Loc (Xf i).env.scope x := by first | (intro _; exact Or.inl rfl) | (intro _; exact Or.inr rfl))
    (hs : ∀ i, swapsWith v (some (.Name x pos')) pos.line (Xf i).env = pure false := by intro _; rfl) (hf : ∀ i, (Xf i).fn x = true ∨ (Xf i).env.scope.names.lookup x = some .local := by first | (intro _; exact Or.inl rfl) | (intro _; exact Or.inr rfl)) :
    PSX Xf W K mg M m1 m (.Assign [.Name x pos'] v pos) (xAsgX j fx) (m1.set j ty) := by
  obtain ⟨t, p, d⟩ := he.ex
  exact ⟨_, fun i => ps_set (F.nd i) (hi i) (hx i) (p i) (hs i) (hf i), DSX.asg d hj hp⟩
end

/-! ### raise -/
/-- __init__ of an own exception: the fields told -/
def spIn (C : Addr) (flds : List Str) : Sp := fun vs H Q _ => ∃ (a : Addr) (ys : List V), vs = .ref a :: ys ∧ ys.length = flds.length ∧ H a = some (exo a C none) ∧
  ∀ (dx : Addr) (H' : Hp), H dx = none → dx ≠ a → H' a = some (exo a C (some dx)) → H' dx = some (exd dx (flds.zip ys).reverse) → (∀ b, b ≠ a → b ≠ dx → H' b = H b) → Q .non H'
structure ExcT (P : Program) (w : World) (K : PySem.W.Frag) (mg : Str → Option Value) (base : Heap) (k : Nat) (x : Str) (flds : List Str) : Prop where
  ex : ∃ (C fI : Addr) (fd : FuncData) (ps : List Str), OexC K C ∧ mg x = some (.ref C) ∧ PySem.W.findIn K (.ref C) "__init__" = some (some (.ref fI)) ∧ PySem.W.typeIn K (.ref fI) = some (.type "function") ∧ FnOk P w K mg base CX0 k fI fd ps (spIn C flds) ∧ Binds K fd ps []
theorem init1 {P : Program} {w : World} {K : PySem.W.Frag} {mg : Str → Option Value} {base : Heap} {C fI : Addr} {fd : FuncData} {qual f y : Str} {st : Stmt} {p1 p2 p3 p4 : Pos} (F : L2.Fun K "__init__" qual st fI fd) (S : FnScope ["self", y] ["self", y] (defScope st)) (hb : defBody st = [.Assign [.Attribute (.Name "self" p1) f p2] (.Name y p3) p4])
    (T : OexC K C) (hno : PySem.W.findIn K (.ref C) f = some none)
    (hv1 : Vis (defScope st) "self") (hv2 : Vis (defScope st) y) (hdy : (y == ("__debug__" : Str)) = false := by decide) (hcy : (y == ("__classdict__" : Str)) = false := by decide)
    (hs : ∀ env, swapsWith (.Name y p3) (some (.Attribute (.Name "self" p1) f p2)) p4.line env = pure false := by intro _; rfl) : FnOk P w K mg base CX0 1 fI fd ["self", y] (spIn C [f]) := by
  refine F.ok S (fun vs H Q E h => ?_) fun cdv A outer s H vs Q E hr h => ⟨tOst K f (tVar 0) (tVar 1), ?_, ?_⟩
  · obtain ⟨a, ys, rfl, hl, _⟩ := h
    simp [hl]
  · rw [hb]
    exact pss_one (ps_ost (pe_var rfl hv1) (pe_var rfl hv2 hdy hcy) (hs _))
  · obtain ⟨a, ys, rfl, hl, he, k⟩ := h
    match ys, hl with
    | [y1], _ =>
      refine ⟨y1, rfl, .ref a, rfl, a, C, rfl, T, hno, .inl ⟨he, fun dx hd ne => ?_⟩⟩
      exact k dx _ hd ne upd_same (by rw [upd_ne ne, upd_same]; rfl) fun b h1 h2 => by rw [upd_ne h1, upd_ne h2]
theorem dqA_rev {K : PySem.W.Frag} {G : Hp} {vs : List V} {ds : List PyData} (h : DqA K G vs ds) : DqA K G vs.reverse ds.reverse := by
  refine ⟨by simp [h.1], fun i v d hv hd => ?_⟩
  have hi : i < vs.length := by have := (List.getElem?_eq_some_iff.mp hv).1; simpa using this
  rw [List.getElem?_reverse hi] at hv
  rw [List.getElem?_reverse (by rw [← h.1]; exact hi), ← h.1] at hd
  exact h.2 _ _ _ hv hd
theorem zip_fst {α : Type} : ∀ {l : List Str} {r : List α}, l.length = r.length → (l.zip r).map (·.1) = l
  | [], [], _ => rfl
  | _ :: l, _ :: r, h => by simp [zip_fst (l := l) (r := r) (by simpa using h)]
theorem zip_snd {α : Type} : ∀ {l : List Str} {r : List α}, l.length = r.length → (l.zip r).map (·.2) = r
  | [], [], _ => rfl
  | _ :: l, _ :: r, h => by simp [zip_snd (l := l) (r := r) (by simpa using h)]
section
variable {ι : Type} {Xf : ι → Cx} {W : WX} {P : Program} {w : World} {K : PySem.W.Frag} {mg : Str → Option Value} {base : Heap} {n : Nat} [F : Fam Xf P w K mg base n]
variable {M : Mk} {m m1 m2 mn mx : List Ty} {pos p p2 spos : Pos} {a : Expr} {es : List Expr} {fr : Lf} {tys : List Ty} {L : List (Option Nat)}
include F in
theorem sx_raise [FG : FamG Xf] [FT : FamT Xf W] {k : Nat} {x : Str} (flds : List Str) (T : ExcT P w K mg base k x flds) (ha : PAL Xf K m (a :: es) tys L fr m1) (lx : LeM m1 mx) (ht : tys = List.replicate flds.length .s := by rfl) (hk : k + 1 ≤ n := by decide) (hn : flds.length ≤ 1000 := by decide) (hg : ∀ i, Gl (Xf i) x := by intro _; rfl)
    (hdb : (x == ("__debug__" : Str)) = false := by decide) (he : ∀ i, starEach (a :: es) (Xf i).env = (false, eval a (Xf i).env) :: starEach es (Xf i).env := by intro _; rfl) (hpl : ∀ i, (backTo pos (starEach es (Xf i).env)).any (·.1) = false := by intro _; rfl) :
    PSX Xf W K mg M mx m (.Raise (some (.Call (.Name x p) (a :: es) [] pos)) none spos) (xRaise x flds fr) mn := by
  obtain ⟨ta, pa, da⟩ := ha.ex
  obtain ⟨C, fI, fd, ps, OX, gC, iC, tI, FI, bI⟩ := T.ex
  refine ⟨fun _ σ H => tMkO C (spIn C flds) [] ta σ H fun cls d H' => W cls d σ H', fun i => ?_, fun {G H σ e A o e' D} st hf k' => ?_⟩
  · have e1 := F.prog i
    have e2 := F.w_ i
    have e3 := F.kk i
    have e4 := F.mg_ i
    have e5 := F.base_ i
    subst e1 e2 e3 e4 e5
    exact ps_raise (FG.calm i) (FT.tk i) (pmk_oex (ds := []) (dvs := []) OX iC tI FI ((rmOf F FG i).mono hk) bI .nil pass0 (hg i) gC (pa i) hdb (he i) (hpl i))
  · unfold xRaise at hf
    obtain ⟨⟨ds, e1⟩, hf1, hf⟩ := Option.bind_eq_some_iff.mp hf
    obtain ⟨hl, hf⟩ := ite_some2 hf
    cases hf
    refine da st hf1 fun G1 H1 vs A1 B1 s1 st1 o1 nd1 _ => ?_
    subst ht
    obtain ⟨rfl, q⟩ := of_ownA o1
    have hlv : vs.length = flds.length := by rw [q.1]; exact hl
    refine ⟨by rw [hlv]; exact hn, fun z hz => ⟨z, vs, by simp, hlv, upd_same, fun dx H' hdx hne h1 h2 h3 => ⟨rfl, dx, _, h1, h2, ?_, ?_⟩⟩⟩
    · rw [upd_ne hne] at hdx; exact hdx
    · rw [upd_ne hne] at hdx
      have eH : upd (del H' z) dx (.xd (flds.zip vs).reverse) = upd H1 dx (.xd (flds.zip vs).reverse) := by
        funext b
        by_cases hb : b = dx
        · subst hb; rw [upd_same, upd_same]
        · rw [upd_ne hb, upd_ne hb]
          by_cases hbz : b = z
          · subst hbz; rw [del_same, hz]
          · rw [del_ne hbz, h3 b hbz hb, upd_ne hbz]
      rw [eH]
      obtain ⟨s2, st2, sg⟩ := new_s (o := .xd (flds.zip vs).reverse) st1 hdx
      obtain ⟨G3, A3, s3, st3⟩ := stt_le lx st2
      have ex : ExAt K mg (upd G1 dx (.xd (flds.zip vs).reverse)) x (flds.zip ds).reverse (.ref C) (some dx) := by
        refine ⟨C, (flds.zip vs).reverse, gC, rfl, fun y hy => (by cases hy; exact upd_same), fun h => (by cases h), ?_, ?_⟩
        · rw [List.map_reverse, List.map_reverse, zip_fst hlv.symm, zip_fst hl.symm]
        · rw [List.map_reverse, List.map_reverse, zip_snd hlv.symm, zip_snd hl.symm]
          exact dqA_rev (q.mono sg)
      have s1' : Step A G H B1 G1 H1 := s1
      exact k' G3 _ σ A3 (.ref C) (some dx) ((s1'.seq0 s2).seq0 s3) st3 Pin.refl (ex.mono s3.sg)
end

/-! ### THE RULE for a def that may raise -/
def runFX (f : SfX) (r : Nat) : DFnX := fun ds => (f (ds ++ List.replicate r .none)).bind fun p => match p.1 with
  | .o (.rt d) => some (.ok d)
  | .o .nx => some (.ok .none)
  | .ex c fs => some (.ex c fs)
  | _ => none
def NoNxX (f : SfX) : Prop := ∀ e e', f e ≠ some (.o .nx, e')
theorem nnx_xO {f : Sf} (h : NoNx f) : NoNxX (xO f) := fun e e' z => by
  obtain ⟨⟨o, e1⟩, h1, h2⟩ := Option.map_eq_some_iff.mp z
  cases h2
  exact h _ _ h1
theorem nnx_xSeq {f g : SfX} (h : NoNxX g) : NoNxX (xSeqX f g) := fun e e' z => by
  obtain ⟨⟨o, e1⟩, _, z⟩ := Option.bind_eq_some_iff.mp z
  match o, z with
  | .o .nx, z => exact h _ _ z
  | .o .bk, z => cases z
  | .o .ct, z => cases z
  | .o (.rt d), z => cases z
  | .ex c fs, z => cases z
theorem nnx_xRet {f : EfX} : NoNxX (xRetX f) := fun e e' z => by
  obtain ⟨⟨r, e1⟩, _, h2⟩ := Option.map_eq_some_iff.mp z
  cases r with
  | ok d => cases h2
  | ex c fs => cases h2
theorem fnX_dl {P : Program} {w : World} {K : PySem.W.Frag} {mg : Str → Option Value} {base : Heap} {x qual : Str} {st : Stmt} {f : Addr} {fd : FuncData} {N ps : List Str} {k : Nat} {ptys : List Ty} {rty : Ty} {sf : SfX} {mr mx : List Ty} {r : Nat}
    (F : L2.Fun K x qual st f fd) (S : FnScope N ps (defScope st)) (hl : ptys.length = ps.length) (hr : N.length = ps.length + r) (hty : rty = .s ∨ NoNxX sf)
    (hbody : ∀ (cdv : Value) (A : Around) (outer : List Env) (s : Shared) (H : Hp) (E : XK), Fam (oneX (cxOf (L2.CX P w) P w K mg base N qual (defScope st) f cdv A outer s H E)) P w K mg base k → FamG (oneX (cxOf (L2.CX P w) P w K mg base N qual (defScope st) f cdv A outer s H E)) → FamN (oneX (cxOf (L2.CX P w) P w K mg base N qual (defScope st) f cdv A outer s H E)) →
      FamT (oneX (cxOf (L2.CX P w) P w K mg base N qual (defScope st) f cdv A outer s H E)) (fun cls d _ H => E cls d H) →
      PSXs (oneX (cxOf (L2.CX P w) P w K mg base N qual (defScope st) f cdv A outer s H E)) (fun cls d _ H => E cls d H) K mg ⟨[], [], mr, [], rty⟩ mx (ptys ++ List.replicate r .u) (defBody st) sf mr) : FnX P w K mg base (k + 1) f fd ps (spX K mg ptys rty (runFX sf r)) := by
  refine fnX_of F S (fun vs H Q E h => ?_) fun cdv A outer s H vs Q E room gd h => ?_
  · obtain ⟨ds, d, G, _, o, _⟩ := h
    have := ownA_len o
    rw [List.length_map] at this
    omega
  · obtain ⟨ds, d, G, hF, o0, sub, kont⟩ := h
    have ln := ownA_len o0
    rw [List.length_map] at ln
    obtain ⟨t, pt, dt⟩ := (hbody cdv A outer s H E ⟨fun _ => rfl, fun _ => rfl, fun _ => rfl, fun _ => rfl, fun _ => rfl, fun _ => room.u, fun _ => S.nd⟩ ⟨fun _ => gd, fun _ => rfl, fun _ => room.hd⟩ ⟨fun _ => passes_of rfl⟩ ⟨fun _ => takes_of rfl rfl rfl rfl⟩).ex
    refine ⟨t, pt (), ?_⟩
    obtain ⟨⟨o, e'⟩, h1, h2⟩ := Option.bind_eq_some_iff.mp hF
    have hst : L2.start N vs = vs.map some ++ List.replicate r none := by
      unfold L2.start
      rw [show N.length - vs.length = r by omega]
    have st0 : Stt K (ptys ++ List.replicate r .u) G H (L2.start N vs) (ds ++ List.replicate r .none) [] := ⟨by rw [hst]; exact ownA_us r o0, List.nodup_nil, sub⟩
    refine dt st0 h1 ?_
    match o, h1, h2 with
    | .o .nx, h1, h2 =>
      cases h2
      rcases hty with hty | hty
      · subst hty
        exact fun G' H' σ' A' s' st' pn => kont G' H' .non [] (s'.less fun a h => by cases h) (.s .non) List.nodup_nil st'.sub
      · exact absurd h1 (hty _ _)
    | .o .bk, _, h2 => cases h2
    | .o .ct, _, h2 => cases h2
    | .o (.rt d1), _, h2 =>
      cases h2
      exact fun G' H' σ' v Av A' s' st' ov ndv pn => kont G' H' v Av (s'.less fun a ha => List.mem_append_left _ ha) ov (List.nodup_append.mp ndv).1 st'.sub
    | .ex c fs, _, h2 =>
      cases h2
      exact fun G' H' σ' A' cls dx s' st' pn ex => kont G' H' cls dx (s'.less fun a h => by cases h) ex st'.sub
end DL

namespace DL
open PySem L2 PySem.Spec

/-! ### the contexts of a try's body and of its suite -/
structure TI {ι : Type} (Xf : ι → Cx) (W : WX) where
  i : ι
  pn : List (Addr × Obj)
  xe : Value → Shared → Prop
  tk : Takes ((Xf i).tr pn xe) W
  ps : PassesOwn (model (Xf i).prog (Xf i).w) (Xf i).A (Xf i).env xe
def tryF {ι : Type} (Xf : ι → Cx) (W : WX) : TI Xf W → Cx := fun b => (Xf b.i).tr b.pn b.xe
section
variable {ι : Type} {Xf : ι → Cx} {P : Program} {w : World} {K : PySem.W.Frag} {mg : Str → Option Value} {base : Heap} {n : Nat} {W : WX}
instance [F : Fam Xf P w K mg base n] : Fam (tryF Xf W) P w K mg base n :=
  ⟨fun b => F.prog b.i, fun b => F.w_ b.i, fun b => F.kk b.i, fun b => F.mg_ b.i, fun b => F.base_ b.i, fun b => F.room b.i, fun b => F.nd b.i⟩
instance [F : FamG Xf] : FamG (tryF Xf W) := ⟨fun b => F.gd b.i, fun b => F.calm b.i, fun b => F.hd b.i⟩
instance : FamN (tryF Xf W) := ⟨fun b => b.ps⟩
instance : FamT (tryF Xf W) W := ⟨fun b => b.tk⟩
end
structure SI {ι : Type} (Xf : ι → Cx) (cls : Value) (d : Option Addr) where
  i : ι
  oe : Obj
  pn : List (Addr × Obj)
  hz : Zc cls d oe
  hf : ∃ vs, oe.data = .fields vs
def suF {ι : Type} (Xf : ι → Cx) (a : Addr) (cls : Value) (d : Option Addr) : SI Xf cls d → Cx := fun b => (Xf b.i).suite a ((a, b.oe) :: b.pn)
section
variable {ι : Type} {Xf : ι → Cx} {P : Program} {w : World} {K : PySem.W.Frag} {mg : Str → Option Value} {base : Heap} {n : Nat} {a : Addr} {cls : Value} {d : Option Addr}
instance [F : Fam Xf P w K mg base n] : Fam (suF Xf a cls d) P w K mg base n :=
  ⟨fun b => F.prog b.i, fun b => F.w_ b.i, fun b => F.kk b.i, fun b => F.mg_ b.i, fun b => F.base_ b.i, fun b => ⟨(F.room b.i).dp, (F.room b.i).un⟩, fun b => F.nd b.i⟩
end
/-- what is caught: classes with the names of their fields, the last one first -/
abbrev CT := List (Str × List Str)
def sTryO (tb : CT) (fb : SfX) (fs : Sf) : Sf := fun e => (fb e).bind fun p => match p.1 with
  | .o x => some (x, p.2)
  | .ex c fl => if tb.lookup c = some (fl.map (·.1)) then fs p.2 else none
def sTryA (tb : CT) (j : Nat) (fb : SfX) (fs : Sf) : Sf := fun e => (fb e).bind fun p => match p.1 with
  | .o x => some (x, p.2)
  | .ex c fl => if tb.lookup c = some (fl.map (·.1)) then fs (p.2.set j (.tuple (.str c :: fl.map (·.2)))) else none
def uAt (m : List Ty) (j : Nat) : Bool := match m[j]? with
  | some .u => true
  | none => true
  | _ => false
section
variable {K : PySem.W.Frag} {G H : Hp}
theorem ownA_setn {m : List Ty} {e : En} {σ : St} {A : List Addr} {j : Nat} (h : OwnA K G H m e σ A) (hu : uAt m j = true) : OwnA K G H m e (σ.set j none) A := by
  unfold uAt at hu
  cases q : m[j]? with
  | none =>
    have hl := (ownA_len h).2
    have : m.length ≤ j := List.getElem?_eq_none_iff.mp q
    rw [List.set_eq_of_length_le (by have := (ownA_len h).1; omega)]
    exact h
  | some t =>
    rw [q] at hu
    have ht : t = .u := by cases t <;> first | rfl | cases hu
    subst ht
    have hl := ownA_len h
    have hj : j < e.length := by have := (List.getElem?_eq_some_iff.mp q).1; omega
    have := ownA_set0 h (t := .u) (d := e[j]) (v := none) (.inl q) (.u _ _)
    rwa [set_id q, set_id (List.getElem?_eq_getElem hj)] at this
theorem stt_setn {m : List Ty} {e : En} {σ : St} {A : List Addr} {j : Nat} (h : Stt K m G H σ e A) (hu : uAt m j = true) : Stt K m G H (σ.set j none) e A := ⟨ownA_setn h.own hu, h.nd, h.sub⟩
end
theorem pss_any {X : Cx} {st : List Stmt} : PSs X st (fun D σ H => ∃ t : TS, PSs X st t ∧ t D σ H) :=
  ⟨fun pins s σ H D I h => by obtain ⟨t, p, q⟩ := h; exact p.run pins s σ H D I q⟩
theorem pss_imp {X : Cx} {st : List Stmt} {t u : TS} (h : PSs X st t) (k : ∀ D σ H, u D σ H → t D σ H) : PSs X st u :=
  ⟨fun pins s σ H D I q => h.run pins s σ H D I (k _ _ _ q)⟩
section
variable {ι : Type} {Xf : ι → Cx} {P : Program} {w : World} {K : PySem.W.Frag} {mg : Str → Option Value} {base : Heap} {n : Nat} [F : Fam Xf P w K mg base n]
variable {M : Mk} {m mn mx : List Ty} {pos pos' np : Pos} {x nm : Str} {cx : Value} {body suite : List Stmt} {b₀ : Stmt} {fb : SfX} {fs : Sf}
include F in
/-- try: .. except x: .. -/
theorem ds_tryO (tb : CT) (hm : mg x = some cx) (hc : ∀ c l, tb.lookup c = some l → ∃ C, mg c = some (.ref C) ∧ PySem.W.exmOne K (.ref C) cx = some true)
    (hb : ∀ W : WX, PSXs (tryF Xf W) W K mg M mx m body fb mn)
    (hsu : ∀ (a : Addr) (cls : Value) (d : Option Addr), PSsd (suF Xf a cls d) K M mx (b₀ :: suite) fs mn)
    (hs : ∀ i, (Xf i).stack = (Xf i).env :: (Xf i).outer := by intro _; rfl) (hf : ∀ i, (Xf i).env.frame = some (Xf i).env.locals := by intro _; rfl) (hg : ∀ i, Gl (Xf i) x := by intro _; rfl) (hdb : (x == ("__debug__" : Str)) = false := by decide) :
    PSd Xf K M m (.Try body [.ExceptHandler (some (.Name x np)) none (b₀ :: suite) pos'] [] [] pos) (sTryO tb fb fs) mn := by
  let tbW : WX → TS := fun W D σ H => ∃ t : TS, (∀ b : TI Xf W, PSs (tryF Xf W b) body t) ∧ t D σ H
  let tsA : Addr → Value → Option Addr → TS := fun a cls d D σ H => ∃ t : TS, (∀ b : SI Xf cls d, PSs (suF Xf a cls d b) (b₀ :: suite) t) ∧ t D σ H
  refine ⟨fun D σ H => tbW (wOnly K cx tsA (fun _ _ _ _ => False) D) D σ H, fun i => ?_, fun {G H σ e A o e' D} st hf' k => ?_⟩
  · have e3 := F.kk i
    have e4 := F.mg_ i
    have := ps_try_only (X := Xf i) (c := cx) (pos := pos) (pos' := pos') (np := np) (tb := tbW) (ts := tsA) (Wout := fun _ _ _ _ => False) (hs i) (hf i) ⟨hg i, hdb, .inl (by rw [e4]; exact hm)⟩ takes0
      (fun W pn xe tk ps => pss_imp (pss_any (X := (Xf i).tr pn xe) (st := body)) fun D σ H ⟨t, p, q⟩ => ⟨t, p ⟨i, pn, xe, tk, ps⟩, q⟩)
      (fun a oe cls d pn hz hv => pss_imp (pss_any (X := (Xf i).suite a ((a, oe) :: pn)) (st := b₀ :: suite)) fun D σ H ⟨t, p, q⟩ => ⟨t, p ⟨i, oe, pn, hz, hv⟩, q⟩)
    rw [e3] at this
    exact this
  · obtain ⟨⟨o1, e1⟩, hf1, hf2⟩ := Option.bind_eq_some_iff.mp hf'
    obtain ⟨t, pt, dt⟩ := (hb (wOnly K cx tsA (fun _ _ _ _ => False) D)).ex
    refine ⟨t, pt, dt st hf1 ?_⟩
    match o1, hf2 with
    | .o x1, hf2 => cases hf2; exact k
    | .ex c fl, hf2 =>
      obtain ⟨hl, hf3⟩ := ite_some2 hf2
      intro G1 H1 σ1 A1 cls dx s1 st1 p1 ex
      obtain ⟨C, hC, hx⟩ := hc c _ hl
      obtain ⟨C', fv, h1, rfl, h3, h4, h5, h6⟩ := ex
      rw [hC] at h1
      cases h1
      refine ⟨true, hx, fun _ a ha => ?_, fun z => by cases z⟩
      obtain ⟨t2, p2, d2⟩ := (hsu a (.ref C) dx).ex
      exact ⟨t2, p2, d2 st1 hf3 (k.back s1 p1)⟩
include F in
/-- try: .. except x as nm: .. -/
theorem ds_tryA (tb : CT) (j : Nat) (hm : mg x = some cx) (hc : ∀ c l, tb.lookup c = some l → ∃ C, mg c = some (.ref C) ∧ PySem.W.exmOne K (.ref C) cx = some true)
    (hb : ∀ W : WX, PSXs (tryF Xf W) W K mg M mx m body fb mn)
    (hsu : ∀ (a : Addr) (cls : Value) (d : Option Addr) (fl : List (Str × V)) (c : Str), tb.lookup c = some (fl.map (·.1)) → mg c = some cls → (d = none → fl = []) → PSsd (suF Xf a cls d) K M (mx.set j (.e a d fl c)) (b₀ :: suite) fs mn)
    (hj : j < mx.length := by decide) (hp : j ∉ M.po := by decide) (un : uAt mn j = true := by rfl) (ub : uAt M.b j = true := by rfl) (uc : uAt M.c j = true := by rfl)
    (hN : ∀ i, (Xf i).N[j]? = some nm := by intro _; rfl) (hln : ∀ i, (Xf i).env.kindOf nm = some .local := by intro _; rfl)
    (hs : ∀ i, (Xf i).stack = (Xf i).env :: (Xf i).outer := by intro _; rfl) (hf : ∀ i, (Xf i).env.frame = some (Xf i).env.locals := by intro _; rfl) (hg : ∀ i, Gl (Xf i) x := by intro _; rfl) (hdb : (x == ("__debug__" : Str)) = false := by decide) :
    PSd Xf K M m (.Try body [.ExceptHandler (some (.Name x np)) (some nm) (b₀ :: suite) pos'] [] [] pos) (sTryA tb j fb fs) mn := by
  let tbW : WX → TS := fun W D σ H => ∃ t : TS, (∀ b : TI Xf W, PSs (tryF Xf W b) body t) ∧ t D σ H
  let tsA : Addr → Value → Option Addr → TS := fun a cls d D σ H => ∃ t : TS, (∀ b : SI Xf cls d, PSs (suF Xf a cls d b) (b₀ :: suite) t) ∧ t D σ H
  refine ⟨fun D σ H => tbW (wAs K cx j tsA (fun _ _ _ _ => False) D) D σ H, fun i => ?_, fun {G H σ e A o e' D} st hf' k => ?_⟩
  · have e3 := F.kk i
    have e4 := F.mg_ i
    have := ps_try_as (X := Xf i) (c := cx) (i := j) (n := nm) (pos := pos) (pos' := pos') (np := np) (tb := tbW) (ts := tsA) (Wout := fun _ _ _ _ => False) (hs i) (hf i) (F.nd i) (hN i) (hln i) ⟨hg i, hdb, .inl (by rw [e4]; exact hm)⟩ takes0
      (fun W pn xe tk ps => pss_imp (pss_any (X := (Xf i).tr pn xe) (st := body)) fun D σ H ⟨t, p, q⟩ => ⟨t, p ⟨i, pn, xe, tk, ps⟩, q⟩)
      (fun a oe cls d pn hz hv => pss_imp (pss_any (X := (Xf i).suite a ((a, oe) :: pn)) (st := b₀ :: suite)) fun D σ H ⟨t, p, q⟩ => ⟨t, p ⟨i, oe, pn, hz, hv⟩, q⟩)
    rw [e3] at this
    exact this
  · obtain ⟨⟨o1, e1⟩, hf1, hf2⟩ := Option.bind_eq_some_iff.mp hf'
    obtain ⟨t, pt, dt⟩ := (hb (wAs K cx j tsA (fun _ _ _ _ => False) D)).ex
    refine ⟨t, pt, dt st hf1 ?_⟩
    match o1, hf2 with
    | .o x1, hf2 => cases hf2; exact k
    | .ex c fl, hf2 =>
      obtain ⟨hl, hf3⟩ := ite_some2 hf2
      intro G1 H1 σ1 A1 cls dx s1 st1 p1 ex
      obtain ⟨C, hC, hx⟩ := hc c _ hl
      obtain ⟨C', fv, h1, rfl, h3, h4, h5, h6⟩ := ex
      rw [hC] at h1
      cases h1
      refine ⟨true, hx, fun _ a ha => ?_, fun z => by cases z⟩
      have h7 : dx = none → fv = [] := fun z => by
        have := h4 z
        subst this
        simpa using h5
      obtain ⟨t2, p2, d2⟩ := (hsu a (.ref C) dx fv c (by rw [h5]; exact hl) hC h7).ex
      obtain ⟨A2, st2, hA2⟩ := stt_set st1 hj (.e (a := a) (c := c) h3 h6) (Av := []) st1.nd
      refine ⟨t2, p2, d2 st2 hf3 ?_⟩
      have s2 : Step A1 G1 H1 A2 G1 H1 := ⟨Same.refl _, fun _ _ h _ => h, fun b hb => .inl (hA2 b hb), fun b hb ⟨o, ho⟩ => by rw [hb] at ho; cases ho⟩
      have pj : ∀ {σ2 : St}, Pin M.po (σ1.set j (some (.ref a))) σ2 → Pin M.po σ1 (σ2.set j none) := fun {σ2} hp2 => ((Pin.set hp).trans hp2).trans (Pin.set hp)
      match o, k with
      | .nx, k => exact fun G' H' σ' A' s' st' p' => k G' H' _ A' ((s1.seq0 s2).seq0 s') (stt_setn st' un) (p1.trans (pj p'))
      | .bk, k => exact fun G' H' σ' A' s' st' p' => k G' H' _ A' ((s1.seq0 s2).seq0 s') (stt_setn st' ub) (p1.trans (pj p'))
      | .ct, k => exact fun G' H' σ' A' s' st' p' => k G' H' _ A' ((s1.seq0 s2).seq0 s') (stt_setn st' uc) (p1.trans (pj p'))
      | .rt r, k => exact fun G' H' σ' v Av A' s' st' o' nd p' => k G' H' σ' v Av A' ((s1.seq0 s2).seq0 s') st' o' nd (p1.trans ((Pin.set hp).trans p'))
end
end DL

namespace DL
open PySem L2 PySem.Spec

/-! ### results of a def that may raise, as plain data: [d], or (class, fields ..), the last field first -/
def gOk (d : PyData) : Option PyData := some (.list [d])
def gUn : PyData → Option PyData
  | .list [d] => some d
  | _ => none
def gRz (c : Str) : PyData → Option PyData
  | .tuple vs => some (.tuple (.str c :: vs.reverse))
  | _ => none
def decR (tb : CT) : PyData → Option Res
  | .list [d] => some (.ok d)
  | .tuple (.str c :: vs) => (tb.lookup c).bind fun l => if l.length = vs.length then some (.ex c (l.zip vs)) else none
  | _ => none
def gIsOk (tb : CT) : PyData → Option PyData
  | .list [_] => some (.bool true)
  | .tuple (.str c :: vs) => (tb.lookup c).bind fun l => if l.length = vs.length then some (.bool false) else none
  | _ => none
def gIsE (rt : List (Str × Bool)) : PyData → Option PyData
  | .tuple (.str c :: _) => (rt.lookup c).bind fun b => some (.bool b)
  | _ => none
def gFldE (tb : CT) (f : Str) : PyData → Option PyData
  | .tuple (.str c :: vs) => (tb.lookup c).bind fun l => (l.zip vs).lookup f
  | _ => none
theorem decR_of {tb : CT} {v : PyData} {r : Res} (h : decR tb v = some r) : (∃ d, v = .list [d] ∧ r = .ok d) ∨ (∃ c vs l, v = .tuple (.str c :: vs) ∧ tb.lookup c = some l ∧ l.length = vs.length ∧ r = .ex c (l.zip vs)) := by
  unfold decR at h
  split at h
  · cases h; exact .inl ⟨_, rfl, rfl⟩
  · rename_i c vs
    obtain ⟨l, h1, h2⟩ := Option.bind_eq_some_iff.mp h
    obtain ⟨h3, h4⟩ := ite_some2 h2
    cases h4
    exact .inr ⟨c, vs, l, rfl, h1, h3, rfl⟩
  · cases h
theorem isOk_of {tb : CT} {v b : PyData} (h : gIsOk tb v = some b) : (∃ d, v = .list [d] ∧ b = .bool true) ∨ (∃ c vs l, v = .tuple (.str c :: vs) ∧ tb.lookup c = some l ∧ l.length = vs.length ∧ b = .bool false) := by
  unfold gIsOk at h
  split at h
  · cases h; exact .inl ⟨_, rfl, rfl⟩
  · rename_i c vs
    obtain ⟨l, h1, h2⟩ := Option.bind_eq_some_iff.mp h
    obtain ⟨h3, h4⟩ := ite_some2 h2
    cases h4
    exact .inr ⟨c, vs, l, rfl, h1, h3, rfl⟩
  · cases h
theorem decR_ex {tb : CT} {c : Str} {vs : List PyData} {l : List Str} (h : tb.lookup c = some l) (hl : l.length = vs.length) : decR tb (.tuple (.str c :: vs)) = some (.ex c (l.zip vs)) := by
  show (tb.lookup c).bind _ = _
  rw [h, Option.bind_some, if_pos hl]
def decX (tb : CT) (f : Sf) : SfX := fun e => (f e).bind fun p => match p.1 with
  | .rt v => (decR tb v).bind fun r => match r with
    | .ok d => some (.o (.rt d), p.2)
    | .ex c fs => some (.ex c fs, p.2)
  | .nx => some (.o .nx, p.2)
  | .bk => some (.o .bk, p.2)
  | .ct => some (.o .ct, p.2)
def decF (tb : CT) (F : DFn) : DFnX := fun ds => (F ds).bind fun q => decR tb q.1
def NoRt (f : Sf) : Prop := ∀ e d e', f e ≠ some (.rt d, e')
theorem nrt_nil : NoRt sNil := fun e d e' h => by cases h
theorem nrt_asg {j : Nat} {f : Ef} : NoRt (sAsg j f) := fun e d e' h => by
  obtain ⟨p, _, h⟩ := Option.map_eq_some_iff.mp h
  cases h
theorem nrt_drop {f : Ef} : NoRt (sDrop f) := fun e d e' h => by
  obtain ⟨p, _, h⟩ := Option.map_eq_some_iff.mp h
  cases h
theorem nrt_tg {f : Ef} {g : Gf} : NoRt (sTg f g) := fun e d e' h => by
  obtain ⟨p, _, h⟩ := Option.bind_eq_some_iff.mp h
  obtain ⟨q, _, h⟩ := Option.map_eq_some_iff.mp h
  cases h
theorem nrt_seq {f g : Sf} (h1 : NoRt f) (h2 : NoRt g) : NoRt (sSeq f g) := fun e d e' h => by
  obtain ⟨⟨o, e1⟩, hf, h⟩ := Option.bind_eq_some_iff.mp h
  cases o with
  | nx => exact h2 _ _ _ h
  | bk => cases h
  | ct => cases h
  | rt r => exact h1 _ _ _ hf
theorem nrt_if {c : Bf} {f g : Sf} (h1 : NoRt f) (h2 : NoRt g) : NoRt (sIf c f g) := fun e d e' h => by
  obtain ⟨⟨b, e1⟩, _, h⟩ := Option.bind_eq_some_iff.mp h
  cases b with
  | true => exact h1 _ _ _ h
  | false => exact h2 _ _ _ h
theorem nrt_wh {k : Nat} {c : Bf} {f : Sf} (h1 : NoRt f) : NoRt (sWh k c f) := by
  have key : ∀ k e d e', whL c f k e ≠ some (.rt d, e') := by
    intro k
    induction k with
    | zero => intro e d e' h; cases h
    | succ k ih =>
      intro e d e' h
      unfold whL at h
      obtain ⟨⟨b, e1⟩, _, h⟩ := Option.bind_eq_some_iff.mp h
      cases b with
      | true =>
        rw [if_pos rfl] at h
        obtain ⟨⟨o, e2⟩, hf, h⟩ := Option.bind_eq_some_iff.mp h
        cases o with
        | nx => exact ih _ _ _ h
        | ct => exact ih _ _ _ h
        | bk => cases h
        | rt r => exact h1 _ _ _ hf
      | false => rw [if_neg (by simp)] at h; cases h
  exact fun e d e' h => key _ _ _ _ h
theorem nnx_dec {tb : CT} {f : Sf} (h : NoNx f) : NoNxX (decX tb f) := fun e e' z => by
  obtain ⟨⟨o, e1⟩, h1, h2⟩ := Option.bind_eq_some_iff.mp z
  cases o with
  | nx => exact h _ _ h1
  | bk => cases h2
  | ct => cases h2
  | rt v =>
    obtain ⟨r, _, h2⟩ := Option.bind_eq_some_iff.mp h2
    cases r <;> cases h2
section
variable {ι : Type} {Xf : ι → Cx} {W : WX} {P : Program} {w : World} {K : PySem.W.Frag} {mg : Str → Option Value} {base : Heap} {n : Nat} [F : Fam Xf P w K mg base n]
variable {M : Mk} {m m1 m2 mn mx : List Ty} {pos p p2 spos : Pos} {c v a : Expr} {es : List Expr} {st : Stmt} {rest body orelse : List Stmt} {f g : Sf} {fx gx : SfX} {bf : Bf} {ef : Ef} {fr : Lf} {tys : List Ty} {L : List (Option Nat)} {tb : CT} {rty ty : Ty}
theorem sx_mono (h : PSX Xf W K mg M mx m st fx mn) (k : ∀ e r, gx e = some r → fx e = some r) : PSX Xf W K mg M mx m st gx mn := by
  obtain ⟨t, p, d⟩ := h.ex
  exact ⟨t, p, fun st' hf kk => d st' (k _ _ hf) kk⟩
theorem sxs_mono (h : PSXs Xf W K mg M mx m rest fx mn) (k : ∀ e r, gx e = some r → fx e = some r) : PSXs Xf W K mg M mx m rest gx mn := by
  obtain ⟨t, p, d⟩ := h.ex
  exact ⟨t, p, fun st' hf kk => d st' (k _ _ hf) kk⟩
theorem dec_xO (h : NoRt f) (e : En) (r : OutX × En) (hf : decX tb f e = some r) : xO f e = some r := by
  obtain ⟨⟨o, e1⟩, h1, h2⟩ := Option.bind_eq_some_iff.mp hf
  unfold xO
  rw [h1]
  cases o with
  | nx => cases h2; rfl
  | bk => cases h2; rfl
  | ct => cases h2; rfl
  | rt d => exact absurd h1 (h _ _ _)
theorem ex_of (h : PSd Xf K M m st f mn) (nr : NoRt f) : PSX Xf W K mg M mx m st (decX tb f) mn := sx_mono (sx_of h) (dec_xO nr)
theorem exs_of (h : PSsd Xf K M m rest f mn) (nr : NoRt f) : PSXs Xf W K mg M mx m rest (decX tb f) mn := sxs_mono (sxs_of h) (dec_xO nr)
theorem exs_one (h : PSX Xf W K mg M mx m st (decX tb f) mn) : PSXs Xf W K mg M mx m [st] (decX tb f) mn := sxs_one h
theorem exs_cons (h1 : PSX Xf W K mg M mx m st (decX tb f) m1) (h2 : PSXs Xf W K mg M mx m1 rest (decX tb g) mn) : PSXs Xf W K mg M mx m (st :: rest) (decX tb (sSeq f g)) mn :=
  sxs_mono (sxs_cons h1 h2) fun e r hf => by
    obtain ⟨⟨o, e1⟩, h3, h4⟩ := Option.bind_eq_some_iff.mp hf
    obtain ⟨⟨o2, e2⟩, h5, h6⟩ := Option.bind_eq_some_iff.mp h3
    unfold xSeqX decX
    rw [h5, Option.bind_some]
    cases o2 with
    | nx =>
      have h6 : g e2 = some (o, e1) := h6
      show decX tb g e2 = some r
      unfold decX
      rw [h6]
      exact h4
    | bk => cases h6; cases h4; rfl
    | ct => cases h6; cases h4; rfl
    | rt d =>
      cases h6
      obtain ⟨r1, h7, h8⟩ := Option.bind_eq_some_iff.mp h4
      show ((((decR tb d).bind _ : Option (OutX × En))).bind _) = some r
      rw [h7, Option.bind_some]
      cases r1 with
      | ok d1 => cases h8; rfl
      | ex c fs => cases h8; rfl
theorem ex_if (hc : PB Xf K m c bf m1) (ha : PSXs Xf W K mg M mx m1 body (decX tb f) mn) (hb : PSXs Xf W K mg M mx m1 orelse (decX tb g) mn) : PSX Xf W K mg M mx m (.If c body orelse pos) (decX tb (sIf bf f g)) mn :=
  sx_mono (sx_if hc ha hb) fun e r hf => by
    obtain ⟨⟨o, e1⟩, h3, h4⟩ := Option.bind_eq_some_iff.mp hf
    obtain ⟨⟨b, e2⟩, h5, h6⟩ := Option.bind_eq_some_iff.mp h3
    unfold xIfX
    rw [h5, Option.bind_some]
    cases b with
    | true =>
      have h6 : f e2 = some (o, e1) := h6
      show decX tb f e2 = some r
      unfold decX
      rw [h6]
      exact h4
    | false =>
      have h6 : g e2 = some (o, e1) := h6
      show decX tb g e2 = some r
      unfold decX
      rw [h6]
      exact h4
theorem ex_ret (he : PD Xf K m v M.ty ef m1) (l : LeM m1 M.r) : PSX Xf W K mg M mx m (.Return (some v) pos) (decX tb (sRet (e1 gOk ef))) mn :=
  sx_mono (sx_of (ds_ret he l)) fun e r hf => by
    obtain ⟨⟨o, e1'⟩, h3, h4⟩ := Option.bind_eq_some_iff.mp hf
    obtain ⟨⟨d, e2⟩, h5, h6⟩ := Option.map_eq_some_iff.mp h3
    unfold e1 at h5
    obtain ⟨⟨d1, e3⟩, h7, h8⟩ := Option.bind_eq_some_iff.mp h5
    cases h8
    cases h6
    cases h4
    unfold xO sRet
    rw [h7]
    rfl
theorem zip_rev {α : Type} {l : List Str} {r : List α} (h : l.length = r.length) : (l.zip r).reverse = l.reverse.zip r.reverse := by
  induction l generalizing r with
  | nil => simp
  | cons a l ih =>
    cases r with
    | nil => simp at h
    | cons b r =>
      have h' : l.length = r.length := by simpa using h
      rw [List.zip_cons_cons, List.reverse_cons, List.reverse_cons, List.reverse_cons, ih h', List.zip_append (by simp [h'])]
      rfl
include F in
theorem ex_raise [FG : FamG Xf] [FT : FamT Xf W] {k : Nat} {x : Str} (flds : List Str) (T : ExcT P w K mg base k x flds) (ha : PAL Xf K m (a :: es) tys L fr m1) (lx : LeM m1 mx) (hl : tb.lookup x = some flds.reverse := by rfl) (ht : tys = List.replicate flds.length .s := by rfl) (hk : k + 1 ≤ n := by decide) (hn : flds.length ≤ 1000 := by decide) (hg : ∀ i, Gl (Xf i) x := by intro _; rfl)
    (hdb : (x == ("__debug__" : Str)) = false := by decide) (he : ∀ i, starEach (a :: es) (Xf i).env = (false, eval a (Xf i).env) :: starEach es (Xf i).env := by intro _; rfl) (hpl : ∀ i, (backTo pos (starEach es (Xf i).env)).any (·.1) = false := by intro _; rfl) :
    PSX Xf W K mg M mx m (.Raise (some (.Call (.Name x p) (a :: es) [] pos)) none spos) (decX tb (sRet (e1 (gRz x) (eTup fr)))) mn :=
  sx_mono (sx_raise flds T ha lx ht hk hn hg hdb he hpl) fun e r hf => by
    obtain ⟨⟨o, e1'⟩, h3, h4⟩ := Option.bind_eq_some_iff.mp hf
    obtain ⟨⟨d, e2⟩, h5, h6⟩ := Option.map_eq_some_iff.mp h3
    unfold e1 eTup at h5
    obtain ⟨⟨d1, e3⟩, h7, h8⟩ := Option.bind_eq_some_iff.mp h5
    obtain ⟨⟨ds, e4⟩, h9, h10⟩ := Option.bind_eq_some_iff.mp h7
    cases h10
    cases h8
    cases h6
    obtain ⟨r1, h11, h12⟩ := Option.bind_eq_some_iff.mp h4
    unfold xRaise
    rw [h9, Option.bind_some]
    rcases decR_of h11 with ⟨d2, z, _⟩ | ⟨c2, vs2, l2, z, z2, z3, rfl⟩
    · cases z
    · cases z
      rw [hl] at z2
      cases z2
      have hl2 : ds.length = flds.length := by simpa using z3.symm
      cases h12
      show (if ds.length = flds.length then some (OutX.ex x (flds.zip ds).reverse, _) else none) = _
      rw [if_pos hl2, zip_rev hl2.symm]
end
theorem FnX.imp {P : Program} {w : World} {K : PySem.W.Frag} {mg : Str → Option Value} {base : Heap} {k : Nat} {f : Addr} {fd : FuncData} {ps : List Str} {sp sp' : Sp} (h : FnX P w K mg base k f fd ps sp') (i : ∀ vs H Q E, sp vs H Q E → sp' vs H Q E) : FnX P w K mg base k f fd ps sp :=
  ⟨fun vs H Q E z => h.len vs H Q E (i _ _ _ _ z), fun A outer s H args us vs Q E r g e0 b rel z => h.run A outer s H args us vs Q E r g e0 b rel (i _ _ _ _ z)⟩
theorem fnX_dlE {P : Program} {w : World} {K : PySem.W.Frag} {mg : Str → Option Value} {base : Heap} {x qual : Str} {st : Stmt} {f : Addr} {fd : FuncData} {N ps : List Str} {k : Nat} {ptys : List Ty} {rty : Ty} {sf : Sf} {mr mx : List Ty} {r : Nat} (tb : CT)
    (F : L2.Fun K x qual st f fd) (S : FnScope N ps (defScope st)) (hl : ptys.length = ps.length) (hr : N.length = ps.length + r) (hty : NoNx sf)
    (hbody : ∀ (cdv : Value) (A : Around) (outer : List Env) (s : Shared) (H : Hp) (E : XK), Fam (oneX (cxOf (L2.CX P w) P w K mg base N qual (defScope st) f cdv A outer s H E)) P w K mg base k → FamG (oneX (cxOf (L2.CX P w) P w K mg base N qual (defScope st) f cdv A outer s H E)) → FamN (oneX (cxOf (L2.CX P w) P w K mg base N qual (defScope st) f cdv A outer s H E)) →
      FamT (oneX (cxOf (L2.CX P w) P w K mg base N qual (defScope st) f cdv A outer s H E)) (fun cls d _ H => E cls d H) →
      PSXs (oneX (cxOf (L2.CX P w) P w K mg base N qual (defScope st) f cdv A outer s H E)) (fun cls d _ H => E cls d H) K mg ⟨[], [], mr, [], rty⟩ mx (ptys ++ List.replicate r .u) (defBody st) (decX tb sf) mr) : FnX P w K mg base (k + 1) f fd ps (spX K mg ptys rty (decF tb (runF sf ptys r))) := by
  refine (fnX_dl F S hl hr (.inr (nnx_dec hty)) hbody).imp fun vs H Q E h => ?_
  obtain ⟨ds, q, G, h1, rest⟩ := h
  refine ⟨ds, q, G, ?_, rest⟩
  obtain ⟨⟨v, fs⟩, h2, h3⟩ := Option.bind_eq_some_iff.mp h1
  obtain ⟨⟨o, e1⟩, h4, h5⟩ := Option.bind_eq_some_iff.mp h2
  unfold runFX decX
  rw [h4, Option.bind_some]
  cases o with
  | nx => exact absurd h4 (hty _ _)
  | bk => cases h5
  | ct => cases h5
  | rt d =>
    cases h5
    have h3 : decR tb v = some q := h3
    show (((decR tb v).bind _ : Option (OutX × En))).bind _ = some q
    rw [h3, Option.bind_some]
    cases q <;> rfl
section
variable {ι : Type} {Xf : ι → Cx} {W : WX} {P : Program} {w : World} {K : PySem.W.Frag} {mg : Str → Option Value} {base : Heap} {n : Nat} [F : Fam Xf P w K mg base n] [FG : FamG Xf]
variable {m m1 m2 m3 : List Ty} {pos p p2 : Pos} {a b c : Expr} {es : List Expr} {f g h : Ef} {fr : Lf} {ty : Ty} {tys : List Ty} {L : List (Option Nat)} {tb : CT}
include F FG in
/-- a call that surely does not raise -/
theorem pd_callS {k : Nat} {x : Str} {rty : Ty} {Fn : DFn} (c : CalX P w K mg base k x tys rty (decF tb Fn)) (ha : PAL Xf K m (a :: es) tys L fr m1) (hst : ∀ t ∈ tys, stb t = true := by decide) (hk : k ≤ n := by decide) (hg : ∀ i, Gl (Xf i) x := by intro _; rfl)
    (hdb : (x == ("__debug__" : Str)) = false := by decide) (he : ∀ i, starEach (a :: es) (Xf i).env = (false, eval a (Xf i).env) :: starEach es (Xf i).env := by intro _; rfl) (hpl : ∀ i, (backTo pos (starEach es (Xf i).env)).any (·.1) = false := by intro _; rfl) :
    PD Xf K m (.Call (.Name x p) (a :: es) [] pos) rty (e1 gUn (eCall Fn fr)) m1 := by
  haveI : FamT Xf (fun _ _ _ _ => False) := ⟨fun _ => takes0⟩
  obtain ⟨te, pe, de⟩ := (pd_sure (px_call (W := fun _ _ _ _ => False) c ha hst hk hg hdb he hpl)).ex
  refine ⟨te, pe, fun {G H σ e A d e' Q} st hf k' => de st ?_ k'⟩
  unfold e1 eCall at hf
  obtain ⟨⟨v, e1'⟩, h1, h2⟩ := Option.bind_eq_some_iff.mp hf
  obtain ⟨⟨ds, e2⟩, h3, h4⟩ := Option.bind_eq_some_iff.mp h1
  obtain ⟨⟨v1, fs1⟩, h5, h6⟩ := Option.bind_eq_some_iff.mp h4
  cases h6
  obtain ⟨d1, h7, h8⟩ := Option.bind_eq_some_iff.mp h2
  cases h8
  have hv : v1 = .list [d] := by
    unfold gUn at h7
    split at h7
    · rename_i z; cases h7; exact z
    · cases h7
  subst hv
  · show ((xCall (decF tb Fn) fr e).bind fun p => (okD p.1).bind fun d => some (d, p.2)) = _
    unfold xCall decF
    rw [h3, Option.bind_some]
    rw [h5]
    rfl
end
end DL

namespace DL
open PySem L2 PySem.Spec

/-! ### try in plain words -/
/-- a slot that nobody reads holds any data -/
theorem ownA_setd {K : PySem.W.Frag} {G H : Hp} {m : List Ty} {e : En} {σ : St} {A : List Addr} {j : Nat} {v : PyData} (h : OwnA K G H m e σ A) (hu : uAt m j = true) : OwnA K G H m (e.set j v) σ A := by
  unfold uAt at hu
  have hl := ownA_len h
  cases q : m[j]? with
  | none =>
    have : m.length ≤ j := List.getElem?_eq_none_iff.mp q
    rw [List.set_eq_of_length_le (by omega)]
    exact h
  | some t =>
    rw [q] at hu
    have ht : t = .u := by cases t <;> first | rfl | cases hu
    subst ht
    have hj : j < σ.length := by have := (List.getElem?_eq_some_iff.mp q).1; omega
    have := ownA_set0 h (t := .u) (d := v) (v := σ[j]) (.inl q) (.u _ _)
    rwa [set_id q, set_id (l := σ) (List.getElem?_eq_getElem hj)] at this
section
variable {ι : Type} {Xf : ι → Cx} {K : PySem.W.Frag} {M : Mk} {m mn : List Ty} {st : Stmt} {f g : Sf}
theorem ds_dirty (h : PSd Xf K M m st f mn) (j : Nat) (hn : uAt mn j = true) (hb : uAt M.b j = true) (hc : uAt M.c j = true) (hr : uAt M.r j = true) (rel : ∀ e o e', g e = some (o, e') → ∃ v e2, f e = some (o, e2) ∧ e' = e2.set j v) : PSd Xf K M m st g mn := by
  obtain ⟨t, p, d⟩ := h.ex
  refine ⟨t, p, fun {G H σ e A o e' D} s hf k => ?_⟩
  obtain ⟨v, e2, h1, rfl⟩ := rel _ _ _ hf
  refine d s h1 ?_
  cases o with
  | nx => exact fun G' H' σ' A' s' st' p' => k G' H' σ' A' s' ⟨ownA_setd st'.own hn, st'.nd, st'.sub⟩ p'
  | bk => exact fun G' H' σ' A' s' st' p' => k G' H' σ' A' s' ⟨ownA_setd st'.own hb, st'.nd, st'.sub⟩ p'
  | ct => exact fun G' H' σ' A' s' st' p' => k G' H' σ' A' s' ⟨ownA_setd st'.own hc, st'.nd, st'.sub⟩ p'
  | rt r => exact fun G' H' σ' v' Av A' s' st' o' nd p' => k G' H' σ' v' Av A' s' ⟨ownA_setd st'.own hr, st'.nd, st'.sub⟩ o' nd p'
theorem ds_imp (h : PSd Xf K M m st f mn) (rel : ∀ e r, g e = some r → f e = some r) : PSd Xf K M m st g mn := by
  obtain ⟨t, p, d⟩ := h.ex
  exact ⟨t, p, fun s hf k => d s (rel _ _ hf) k⟩
end
theorem set_getD {e : En} {j : Nat} {v : PyData} : (e.set j v).getD j .none = if j < e.length then v else .none := by
  rw [List.getD_eq_getElem?_getD]
  by_cases h : j < e.length
  · rw [List.getElem?_set_self h, if_pos h]; rfl
  · rw [if_neg h, List.getElem?_eq_none (by rw [List.length_set]; omega)]; rfl
theorem set_self (e : En) (j : Nat) : e.set j (e.getD j .none) = e := by
  by_cases h : j < e.length
  · rw [List.getD_eq_getElem?_getD, List.getElem?_eq_getElem h]
    exact set_id (List.getElem?_eq_getElem h)
  · exact List.set_eq_of_length_le (by omega)
/-- e as nm: [x = f(..)] with what is made of the result -/
def sTryE (tb : CT) (j x : Nat) (wr : Ef → Ef) (call : Ef) (fs : Sf) : Sf := sSeq (sAsg j call) (sIf (bT (e1 (gIsOk tb) (eVar j))) (sAsg x (wr (e1 gUn (eVar j)))) fs)
theorem tryE_rel {tb : CT} {j x : Nat} {wr : Ef → Ef} {wx : EfX → EfX} {Fn : DFn} {fr : Lf} {fs : Sf} (hjx : x ≠ j)
    (hok : ∀ (g : EfX) (f : Ef) (e e1 e2 : En) (d d2 : PyData), g e = some (.ok d, e1) → wr f = wr f → (∀ e0, f e0 = some (d, e0)) → wr f e2 = some (d2, e2) → wx g e = some (.ok d2, e1))
    (hwr : ∀ (f : Ef) (e : En) (d : PyData) (e' : En), f e = some (d, e) → (∀ d1, ∀ e1, wr f e = some (d1, e1) → e1 = e ∧ ∀ f2 : Ef, (∀ e0, f2 e0 = some (d, e0)) → wr f2 e = some (d1, e)))
    (hex : ∀ (g : EfX) (e e1 : En) (c : Str) (fl : List (Str × PyData)), g e = some (.ex c fl, e1) → wx g e = some (.ex c fl, e1)) : ∀ e o e', sTryE tb j x wr (eCall Fn fr) fs e = some (o, e') → ∃ v e2, sTryA tb j (xAsgX x (wx (xCall (decF tb Fn) fr))) fs e = some (o, e2) ∧ e' = e2.set j v := by
  intro e o e' h
  obtain ⟨⟨o1, ea⟩, h1, h2⟩ := Option.bind_eq_some_iff.mp h
  obtain ⟨⟨v, eb⟩, h3, h4⟩ := Option.map_eq_some_iff.mp h1
  cases h4
  have h2 : sIf (bT (e1 (gIsOk tb) (eVar j))) (sAsg x (wr (e1 gUn (eVar j)))) fs (eb.set j v) = some (o, e') := h2
  unfold sIf bT e1 eVar at h2
  simp only [Option.bind_some, set_getD] at h2
  by_cases hj : j < eb.length
  · rw [if_pos hj] at h2
    obtain ⟨⟨b, ec⟩, h5, h6⟩ := Option.bind_eq_some_iff.mp h2
    obtain ⟨⟨bd, ed⟩, h7, h8⟩ := Option.bind_eq_some_iff.mp h5
    obtain ⟨b1, h9, h10⟩ := Option.bind_eq_some_iff.mp h7
    cases h10
    -- the call
    unfold eCall at h3
    obtain ⟨⟨ds, ex⟩, k1, k2⟩ := Option.bind_eq_some_iff.mp h3
    obtain ⟨⟨v1, fs1⟩, k3, k4⟩ := Option.bind_eq_some_iff.mp k2
    cases k4
    have call : ∀ r, decR tb v1 = some r → xCall (decF tb Fn) fr e = some (r, ex) := fun r hr => by
      unfold xCall decF
      rw [k1, Option.bind_some]
      show (((Fn ds).bind fun q => decR tb q.1).bind fun q => some (q, ex)) = _
      rw [k3, Option.bind_some]
      show ((decR tb v1).bind fun q => some (q, ex)) = _
      rw [hr]; rfl
    rcases isOk_of h9 with ⟨d, hv, rfl⟩ | ⟨c, vs, l, hv, hl1, hl2, rfl⟩
    · have hv : v1 = .list [d] := hv
      subst hv
      cases h8
      rw [if_pos rfl] at h6
      obtain ⟨⟨d2, ef⟩, h11, h12⟩ := Option.map_eq_some_iff.mp h6
      cases h12
      have hf : (fun e : En => ((some (e.getD j PyData.none, e)).bind fun p => (gUn p.1).bind fun r => some (r, p.2)) : Ef) (ex.set j (.list [d])) = some (d, ex.set j (.list [d])) := by
        simp only [Option.bind_some, set_getD]
        rw [if_pos hj]
        rfl
      obtain ⟨hq, hq2⟩ := hwr _ _ d (ex.set j (.list [d])) hf d2 ef h11
      subst hq
      have cl := call (.ok d) rfl
      have hw := hok _ (fun e0 => some (d, e0)) e ex (ex.set j (.list [d])) d d2 cl rfl (fun e0 => rfl) (hq2 _ fun e0 => rfl)
      refine ⟨.list [d], ex.set x d2, ?_, List.set_comm _ _ (fun z => hjx z.symm)⟩
      unfold sTryA xAsgX
      rw [hw]; rfl
    · have hv : v1 = .tuple (.str c :: vs) := hv
      subst hv
      cases h8
      rw [if_neg (by simp)] at h6
      have cl := call _ (decR_ex hl1 hl2)
      have hw := hex _ _ _ _ _ cl
      refine ⟨e'.getD j .none, e', ?_, (set_self e' j).symm⟩
      unfold sTryA xAsgX
      rw [hw]
      show (if tb.lookup c = some ((l.zip vs).map (·.1)) then fs (ex.set j (.tuple (.str c :: (l.zip vs).map (·.2)))) else none) = _
      rw [zip_fst hl2, zip_snd hl2, if_pos hl1]
      exact h6
  · rw [if_neg hj] at h2
    cases h2
def wrI (f : Ef) : Ef := f
def wrL (z : Str) (f : Ef) : Ef := eLst (lCons (eC (.str z)) (lCons f lNil))
theorem tryE_I {tb : CT} {j x : Nat} {Fn : DFn} {fr : Lf} {fs : Sf} (hjx : x ≠ j) : ∀ e o e', sTryE tb j x wrI (eCall Fn fr) fs e = some (o, e') → ∃ v e2, sTryA tb j (xAsgX x (xCall (decF tb Fn) fr)) fs e = some (o, e2) ∧ e' = e2.set j v :=
  tryE_rel (wx := fun g => g) hjx (fun g f e e1 e2 d d2 h _ h0 h2 => by
      have : f e2 = some (d2, e2) := h2
      rw [h0] at this; cases this; exact h)
    (fun f e d e' h d1 ea h1 => by
      have h1 : f e = some (d1, ea) := h1
      rw [h] at h1; cases h1
      exact ⟨rfl, fun f2 h2 => h2 e⟩)
    (fun g e e1 c fl h => h)
theorem tryE_L {tb : CT} {j x : Nat} {z : Str} {Fn : DFn} {fr : Lf} {fs : Sf} (hjx : x ≠ j) : ∀ e o e', sTryE tb j x (wrL z) (eCall Fn fr) fs e = some (o, e') → ∃ v e2, sTryA tb j (xAsgX x (xLst2 (eC (.str z)) (xCall (decF tb Fn) fr))) fs e = some (o, e2) ∧ e' = e2.set j v :=
  tryE_rel (wx := fun g => xLst2 (eC (.str z)) g) hjx (fun g f e e1 e2 d d2 h _ h0 h2 => by
      have h2 : wrL z f e2 = some (d2, e2) := h2
      unfold wrL eLst lCons lNil eC at h2
      simp only [Option.bind_some, h0] at h2
      cases h2
      unfold xLst2 eC
      simp only [Option.bind_some, h])
    (fun f e d e' h d1 ea h1 => by
      unfold wrL eLst lCons lNil eC at h1
      simp only [Option.bind_some, h] at h1
      cases h1
      refine ⟨rfl, fun f2 h2 => ?_⟩
      unfold wrL eLst lCons lNil eC
      simp only [Option.bind_some, h2])
    (fun g e e1 c fl h => by
      unfold xLst2 eC
      simp only [Option.bind_some, h])
section
variable {ι : Type} {Xf : ι → Cx} {P : Program} {w : World} {K : PySem.W.Frag} {mg : Str → Option Value} {base : Heap} {n : Nat} [F : Fam Xf P w K mg base n] [FG : FamG Xf]
variable {M : Mk} {m m1 mn mx : List Ty} {pos pos' np p2 p3 cp : Pos} {x nm g y : Str} {cx : Value} {suite : List Stmt} {b₀ : Stmt} {fs : Sf} {Fn : DFn} {fr : Lf} {tys : List Ty} {L : List (Option Nat)} {rty : Ty} {a : Expr} {es : List Expr} {k : Nat}
/-- caught: the classes of tb are named by the clause -/
def Cat (K : PySem.W.Frag) (mg : Str → Option Value) (tb : CT) (cx : Value) : Prop := ∀ c l, tb.lookup c = some l → ∃ C, mg c = some (.ref C) ∧ PySem.W.exmOne K (.ref C) cx = some true
include F FG in
/-- try: f(..) / except X: .. -/
theorem ds_tryD (tb : CT) (hm : mg x = some cx) (hc : Cat K mg tb cx) (c : CalX P w K mg base k g tys rty (decF tb Fn)) (ha : ∀ W : WX, PAL (tryF Xf W) K m (a :: es) tys L fr mn) (hsu : ∀ (a : Addr) (cls : Value) (d : Option Addr), PSsd (suF Xf a cls d) K M mn (b₀ :: suite) fs mn)
    (hst : ∀ t ∈ tys, stb t = true := by decide) (hk : k ≤ n := by decide) (hg : ∀ W i, Gl (tryF Xf W i) g := by intro _ _; rfl)
    (hdb : (g == ("__debug__" : Str)) = false := by decide) (he : ∀ W i, starEach (a :: es) (tryF Xf W i).env = (false, eval a (tryF Xf W i).env) :: starEach es (tryF Xf W i).env := by intro _ _; rfl) (hpl : ∀ W i, (backTo cp (starEach es (tryF Xf W i).env)).any (·.1) = false := by intro _ _; rfl)
    (hsw : ∀ W i, swapsWith (.Call (.Name g p3) (a :: es) [] cp) none p2.line (tryF Xf W i).env = pure false := by intro _ _; rfl)
    (hs : ∀ i, (Xf i).stack = (Xf i).env :: (Xf i).outer := by intro _; rfl) (hf : ∀ i, (Xf i).env.frame = some (Xf i).env.locals := by intro _; rfl) (hgx : ∀ i, Gl (Xf i) x := by intro _; rfl) (hdx : (x == ("__debug__" : Str)) = false := by decide) :
    PSd Xf K M m (.Try [.Expr (.Call (.Name g p3) (a :: es) [] cp) p2] [.ExceptHandler (some (.Name x np)) none (b₀ :: suite) pos'] [] [] pos) (sIf (bT (e1 (gIsOk tb) (eCall Fn fr))) sNil fs) mn := by
  refine ds_imp (ds_tryO tb hm hc (fun W => sxs_one (sx_drop (px_call (Xf := tryF Xf W) (W := W) c (ha W) hst hk (hg W) hdb (he W) (hpl W)) (hsw W))) hsu hs hf hgx hdx) fun e r h => ?_
  obtain ⟨⟨b, ea⟩, h1, h2⟩ := Option.bind_eq_some_iff.mp h
  obtain ⟨⟨bd, eb⟩, h3, h4⟩ := Option.bind_eq_some_iff.mp h1
  obtain ⟨⟨v, ec⟩, h5, h6⟩ := Option.bind_eq_some_iff.mp h3
  obtain ⟨b1, h7, h8⟩ := Option.bind_eq_some_iff.mp h6
  cases h8
  unfold eCall at h5
  obtain ⟨⟨ds, ex⟩, k1, k2⟩ := Option.bind_eq_some_iff.mp h5
  obtain ⟨⟨v1, fs1⟩, k3, k4⟩ := Option.bind_eq_some_iff.mp k2
  cases k4
  have call : ∀ r, decR tb v1 = some r → xCall (decF tb Fn) fr e = some (r, ex) := fun r hr => by
    unfold xCall decF
    rw [k1, Option.bind_some]
    show (((Fn ds).bind fun q => decR tb q.1).bind fun q => some (q, ex)) = _
    rw [k3, Option.bind_some]
    show ((decR tb v1).bind fun q => some (q, ex)) = _
    rw [hr]; rfl
  rcases isOk_of h7 with ⟨d, hv, rfl⟩ | ⟨c, vs, l, hv, hl1, hl2, rfl⟩
  · have hv : v1 = .list [d] := hv
    subst hv
    cases h4
    rw [if_pos rfl] at h2
    cases h2
    unfold sTryO xDropX
    rw [call (.ok d) rfl]; rfl
  · have hv : v1 = .tuple (.str c :: vs) := hv
    subst hv
    cases h4
    rw [if_neg (by simp)] at h2
    unfold sTryO xDropX
    rw [call _ (decR_ex hl1 hl2)]
    show (if tb.lookup c = some ((l.zip vs).map (·.1)) then fs ex else none) = _
    rw [zip_fst hl2, if_pos hl1]
    exact h2
/-- what an except suite is told -/
def Suit {ι : Type} (Xf : ι → Cx) (K : PySem.W.Frag) (mg : Str → Option Value) (M : Mk) (tb : CT) (mx : List Ty) (j : Nat) (suite : List Stmt) (fs : Sf) (mn : List Ty) : Prop :=
  ∀ (a : Addr) (cls : Value) (d : Option Addr) (fl : List (Str × V)) (c : Str), tb.lookup c = some (fl.map (·.1)) → mg c = some cls → (d = none → fl = []) → PSsd (suF Xf a cls d) K M (mx.set j (.e a d fl c)) suite fs mn
include F FG in
/-- try: y = f(..) / except X as nm: .. -/
theorem ds_tryN (tb : CT) (j yj : Nat) (hm : mg x = some cx) (hc : Cat K mg tb cx) (c : CalX P w K mg base k g tys rty (decF tb Fn)) (ha : ∀ W : WX, PAL (tryF Xf W) K m (a :: es) tys L fr m1) (hsu : Suit Xf K mg M tb m1 j (b₀ :: suite) fs mn) (lm : LeM (m1.set yj rty) mn)
    (hjy : yj ≠ j := by decide) (hyl : yj < m1.length := by decide) (hyp : yj ∉ M.po := by decide) (hj : j < m1.length := by decide) (hp : j ∉ M.po := by decide) (un : uAt mn j = true := by rfl) (ub : uAt M.b j = true := by rfl) (uc : uAt M.c j = true := by rfl) (ur : uAt M.r j = true := by rfl)
    (hst : ∀ t ∈ tys, stb t = true := by decide) (hk : k ≤ n := by decide) (hg : ∀ W i, Gl (tryF Xf W i) g := by intro _ _; rfl)
    (hdb : (g == ("__debug__" : Str)) = false := by decide) (he : ∀ W i, starEach (a :: es) (tryF Xf W i).env = (false, eval a (tryF Xf W i).env) :: starEach es (tryF Xf W i).env := by intro _ _; rfl) (hpl : ∀ W i, (backTo cp (starEach es (tryF Xf W i).env)).any (·.1) = false := by intro _ _; rfl)
    (hi : ∀ W i, (tryF Xf W i).N[yj]? = some y := by intro _ _; rfl) (hx : ∀ W i, Loc (tryF Xf W i).env.scope y := by first | (intro _ _; exact Or.inl rfl) | (intro _ _; exact Or.inr rfl))
    (hsw : ∀ W i, swapsWith (.Call (.Name g p3) (a :: es) [] cp) (some (.Name y np)) p2.line (tryF Xf W i).env = pure false := by intro _ _; rfl) (hfn : ∀ W i, (tryF Xf W i).fn y = true ∨ (tryF Xf W i).env.scope.names.lookup y = some .local := by first | (intro _ _; exact Or.inl rfl) | (intro _ _; exact Or.inr rfl))
    (hN : ∀ i, (Xf i).N[j]? = some nm := by intro _; rfl) (hln : ∀ i, (Xf i).env.kindOf nm = some .local := by intro _; rfl)
    (hs : ∀ i, (Xf i).stack = (Xf i).env :: (Xf i).outer := by intro _; rfl) (hf : ∀ i, (Xf i).env.frame = some (Xf i).env.locals := by intro _; rfl) (hgx : ∀ i, Gl (Xf i) x := by intro _; rfl) (hdx : (x == ("__debug__" : Str)) = false := by decide) {np2 : Pos} :
    PSd Xf K M m (.Try [.Assign [.Name y np] (.Call (.Name g p3) (a :: es) [] cp) p2] [.ExceptHandler (some (.Name x np2)) (some nm) (b₀ :: suite) pos'] [] [] pos) (sTryE tb j yj wrI (eCall Fn fr) fs) mn :=
  ds_dirty (ds_tryA tb j hm hc (fun W => sxs_le (sxs_one (sx_asg (Xf := tryF Xf W) (W := W) yj (px_call c (ha W) hst hk (hg W) hdb (he W) (hpl W)) hyl hyp (hi W) (hx W) (hsw W) (hfn W))) lm) hsu hj hp un ub uc hN hln hs hf hgx hdx) j un ub uc ur (tryE_I hjy)
include F FG in
/-- try: y = ["..", f(..)] / except X as nm: .. -/
theorem ds_tryL (tb : CT) (j yj : Nat) {z : Str} {jz : Nat} {zp lp : Pos} (hm : mg x = some cx) (hc : Cat K mg tb cx) (c : CalX P w K mg base k g tys .s (decF tb Fn)) (ha : ∀ W : WX, PAL (tryF Xf W) K m (a :: es) tys L fr m1) (hsu : Suit Xf K mg M tb m1 j (b₀ :: suite) fs mn) (lm : LeM (m1.set yj (.l .s)) mn)
    (hz : z.length ≤ sizeLine := by decide +kernel) (hjy : yj ≠ j := by decide) (hyl : yj < m1.length := by decide) (hyp : yj ∉ M.po := by decide) (hj : j < m1.length := by decide) (hp : j ∉ M.po := by decide) (un : uAt mn j = true := by rfl) (ub : uAt M.b j = true := by rfl) (uc : uAt M.c j = true := by rfl) (ur : uAt M.r j = true := by rfl)
    (hst : ∀ t ∈ tys, stb t = true := by decide) (hk : k ≤ n := by decide) (hg : ∀ W i, Gl (tryF Xf W i) g := by intro _ _; rfl)
    (hdb : (g == ("__debug__" : Str)) = false := by decide) (he : ∀ W i, starEach (a :: es) (tryF Xf W i).env = (false, eval a (tryF Xf W i).env) :: starEach es (tryF Xf W i).env := by intro _ _; rfl) (hpl : ∀ W i, (backTo cp (starEach es (tryF Xf W i).env)).any (·.1) = false := by intro _ _; rfl)
    (hs1 : ∀ W i, starEach [.Constant (.str z) jz zp, .Call (.Name g p3) (a :: es) [] cp] (tryF Xf W i).env = (false, eval (.Constant (.str z) jz zp) (tryF Xf W i).env) :: starEach [.Call (.Name g p3) (a :: es) [] cp] (tryF Xf W i).env := by intro _ _; rfl) (hs2 : ∀ W i, starEach [.Call (.Name g p3) (a :: es) [] cp] (tryF Xf W i).env = (false, eval (.Call (.Name g p3) (a :: es) [] cp) (tryF Xf W i).env) :: starEach [] (tryF Xf W i).env := by intro _ _; rfl)
    (hi : ∀ W i, (tryF Xf W i).N[yj]? = some y := by intro _ _; rfl) (hx : ∀ W i, Loc (tryF Xf W i).env.scope y := by first | (intro _ _; exact Or.inl rfl) | (intro _ _; exact Or.inr rfl))
    (hsw : ∀ W i, swapsWith (.List [.Constant (.str z) jz zp, .Call (.Name g p3) (a :: es) [] cp] lp) (some (.Name y np)) p2.line (tryF Xf W i).env = pure false := by intro _ _; rfl) (hfn : ∀ W i, (tryF Xf W i).fn y = true ∨ (tryF Xf W i).env.scope.names.lookup y = some .local := by first | (intro _ _; exact Or.inl rfl) | (intro _ _; exact Or.inr rfl))
    (hN : ∀ i, (Xf i).N[j]? = some nm := by intro _; rfl) (hln : ∀ i, (Xf i).env.kindOf nm = some .local := by intro _; rfl)
    (hs : ∀ i, (Xf i).stack = (Xf i).env :: (Xf i).outer := by intro _; rfl) (hf : ∀ i, (Xf i).env.frame = some (Xf i).env.locals := by intro _; rfl) (hgx : ∀ i, Gl (Xf i) x := by intro _; rfl) (hdx : (x == ("__debug__" : Str)) = false := by decide) {np2 : Pos} :
    PSd Xf K M m (.Try [.Assign [.Name y np] (.List [.Constant (.str z) jz zp, .Call (.Name g p3) (a :: es) [] cp] lp) p2] [.ExceptHandler (some (.Name x np2)) (some nm) (b₀ :: suite) pos'] [] [] pos) (sTryE tb j yj (wrL z) (eCall Fn fr) fs) mn :=
  ds_dirty (ds_tryA tb j hm hc (fun W => sxs_le (sxs_one (sx_asg (Xf := tryF Xf W) (W := W) yj (px_lst2 (pd_str hz) (px_call c (ha W) hst hk (hg W) hdb (he W) (hpl W)) (hs1 W) (hs2 W)) hyl hyp (hi W) (hx W) (hsw W) (hfn W))) lm) hsu hj hp un ub uc hN hln hs hf hgx hdx) j un ub uc ur (tryE_L hjy)
end
end DL

namespace DL
open PySem L2 PySem.Spec

/-! ### what a suite asks of the error it holds -/
theorem any_some' {K : PySem.W.Frag} {D : Addr} (h : PySem.W.hasDictIn K D = true) : (PySem.W.clsIn K D).isSome = true := by
  obtain ⟨cd, hc, _⟩ := PySem.W.any_some h
  rw [hc]; rfl
/-- isinstance(e, C) -/
def rIsX (K : PySem.W.Frag) (D a : Addr) (d : Option Addr) : List V → Hp → VK → Prop := fun xs H Q => ∃ (c : V) (cv : Value) (b : Bool), xs = [.ref a, c] ∧ (∀ dd, d = some dd → ∃ fs, H dd = some (.xd fs)) ∧ (∀ u, RelV c u → u = cv) ∧ PySem.W.kitOne K (.ref D) cv = some b ∧ Q (.bl b) H
/-- isinstance(e, (C1, C2, ..)) -/
def rIsXT (K : PySem.W.Frag) (D a : Addr) (d : Option Addr) : List V → Hp → VK → Prop := fun xs H Q => ∃ (tp : Addr) (cs : List V) (us : List Value) (b : Bool), xs = [.ref a, .ref tp] ∧ (∀ dd, d = some dd → ∃ fs, H dd = some (.xd fs)) ∧ H tp = some (.tup cs) ∧ Paired ClsV cs us ∧ PySem.W.kitAny K (.ref D) us = some b ∧ Q (.bl b) H
theorem inst_x {X : Cx} {a D : Addr} {oe : Obj} {d : Option Addr} {pn pins : List (Addr × Obj)} {σ : St} {H : Hp} {s : Shared} (hz : Zc (.ref D) d oe) (hf : ∃ vs, oe.data = .fields vs) (I : L2.Inv (X.suite a ((a, oe) :: pn)) pins σ H s) (hd : ∀ dd, d = some dd → ∃ fs, H dd = some (.xd fs)) :
    ∃ od, PySem.W.InstAt s.heap a oe D od := by
  obtain ⟨ha, _⟩ := I.pin (a, oe) (List.mem_append_left _ List.mem_cons_self)
  obtain ⟨vs, hv⟩ := hf
  cases d with
  | none =>
    refine ⟨none, ?_⟩
    obtain ⟨oc, od, oda, osl⟩ := oe
    obtain ⟨h1, h2⟩ := hz
    dsimp only at h1 h2 hv
    subst h1 h2 hv
    exact ⟨ha, rfl, rfl, trivial⟩
  | some dd =>
    obtain ⟨fs, ea⟩ := hd dd rfl
    have hx : ObjOk X.prog X.w H s.heap dd (.xd fs) := I.hok dd _ ea
    obtain ⟨mA, hns, hr⟩ := hx
    obtain ⟨od, ho, hl⟩ := lookIn_ns hns
    exact ⟨some od, ha, hz.1, by unfold PySem.W.notCls; rw [hv] <;> rfl, by rw [hz.2]; exact ho⟩
theorem call_isX {X : Cx} {a D : Addr} {oe : Obj} {d : Option Addr} {pn : List (Addr × Obj)} (C : ExcC X.K D) (hz : Zc (.ref D) d oe) (hf : ∃ vs, oe.data = .fields vs) : CallR (X.suite a ((a, oe) :: pn)) (.builtin "isinstance") (rIsX X.K D a d) := by
  intro pins s σ H xs us Q I r h
  obtain ⟨c, cv, b, rfl, hd, hcv, e, q⟩ := h
  obtain ⟨u1, u2, rfl, r1, r2⟩ := vals2 r
  cases (show u1 = Value.ref a from r1)
  have ec := hcv _ r2
  subst ec
  obtain ⟨od, J⟩ := inst_x hz hf I hd
  exact PySem.W.kia_one (PySem.W.kitx_exc (any_some' C.hd) C.hg C.hk C.hs C.ha C.hn C.ht C.hm) I.kIn J e (fun z => nomatch z) fun tk => ⟨.bl b, H, I.tok tk, rfl, q⟩
theorem call_isXT {X : Cx} {a D : Addr} {oe : Obj} {d : Option Addr} {pn : List (Addr × Obj)} (C : ExcC X.K D) (hz : Zc (.ref D) d oe) (hf : ∃ vs, oe.data = .fields vs) : CallR (X.suite a ((a, oe) :: pn)) (.builtin "isinstance") (rIsXT X.K D a d) := by
  intro pins s σ H xs us Q I r h
  obtain ⟨tp, cs, ws, b, rfl, hd, hT, k, e, q⟩ := h
  obtain ⟨u1, u2, rfl, r1, r2⟩ := vals2 r
  cases (show u1 = Value.ref a from r1)
  cases (show u2 = Value.ref tp from r2)
  obtain ⟨od, J⟩ := inst_x hz hf I hd
  obtain ⟨_, its, rv, o, h1, h2, n, h3⟩ := (show ObjOk X.prog X.w H s.heap tp (.tup cs) from I.hok tp _ hT)
  have e3 := ClsV.all k rv
  subst e3
  obtain ⟨oc, od', dt, sl⟩ := o
  simp only at h2 h3
  subst h2 h3
  exact PySem.W.kia_tup (PySem.W.kitx_exc (any_some' C.hd) C.hg C.hk C.hs C.ha C.hn C.ht C.hm) I.kIn J h1 e (fun z => nomatch z) fun tk => ⟨.bl b, H, I.tok tk, rfl, q⟩
/-- what the tests of one class say, of the errors of tb -/
def IsT (K : PySem.W.Frag) (mg : Str → Option Value) (tb : CT) (rt : List (Str × Bool)) (cv : Value) : Prop := ∀ c l, tb.lookup c = some l → ∃ D, mg c = some (.ref D) ∧ ExcC K D ∧ ∀ b, rt.lookup c = some b → PySem.W.kitOne K (.ref D) cv = some b
def IsTs (K : PySem.W.Frag) (mg : Str → Option Value) (tb : CT) (rt : List (Str × Bool)) (cvs : List Value) : Prop := ∀ c l, tb.lookup c = some l → ∃ D, mg c = some (.ref D) ∧ ExcC K D ∧ ∀ b, rt.lookup c = some b → PySem.W.kitAny K (.ref D) cvs = some b
def FldT (K : PySem.W.Frag) (mg : Str → Option Value) (tb : CT) : Prop := ∀ c l, tb.lookup c = some l → ∃ D, mg c = some (.ref D) ∧ XfC K D ∧ ∀ f ∈ l, PySem.W.findIn K (.ref D) f = some none
section
variable {ι : Type} {Xf : ι → Cx} {P : Program} {w : World} {K : PySem.W.Frag} {mg : Str → Option Value} {base : Heap} {n : Nat} [F : Fam Xf P w K mg base n]
variable {m : List Ty} {pos p p1 p2 p3 : Pos} {x nm c : Str} {a : Addr} {cls : Value} {d : Option Addr} {fl : List (Str × V)} {tb : CT} {rt : List (Str × Bool)} {cv : Value} {v : V} {l : List Str}
theorem xe_slot {G H : Hp} {σ : St} {e : En} {A : List Addr} {j : Nat} (st : Stt K m G H σ e A) (hm : m[j]? = some (.e a d fl c)) : ∃ ds, e.getD j .none = .tuple (.str c :: ds) ∧ σ[j]? = some (some (.ref a)) ∧ (∀ x, d = some x → H x = some (.xd fl)) ∧ DqA K G (fl.map (·.2)) ds := by
  obtain ⟨d', v, Aj, A0, h1, h2, h3, _, _⟩ := ownA_take st.own hm
  cases h3 with
  | e k1 k2 => exact ⟨_, by rw [List.getD_eq_getElem?_getD, h1]; rfl, h2, fun x hx => st.sub _ _ (k1 x hx), k2⟩
include F in
theorem pd_isX (j : Nat) (hm : m[j]? = some (.e a d fl c)) (hmc : mg c = some cls) (htb : tb.lookup c = some l) (hi : IsT K mg tb rt cv) (hI : mg "isinstance" = none) (hT : ∀ i : SI Xf cls d, PE (suF Xf a cls d i) (.Name x p2) (tC v)) (hv : ∀ u, RelV v u → u = cv)
    (hN : ∀ i, (suF Xf a cls d i).N[j]? = some nm := by intro _; rfl) (hvs : ∀ i, Vis (suF Xf a cls d i).env.scope nm := by first | (intro _; exact Or.inl rfl) | (intro _; exact Or.inr (Or.inl rfl)) | (intro _; exact Or.inr (Or.inr rfl))) (hd : (nm == ("__debug__" : Str)) = false := by decide) (hcd : (nm == ("__classdict__" : Str)) = false := by decide) (hg : ∀ i, Gl (suF Xf a cls d i) "isinstance" := by intro _; rfl)
    (he : ∀ i, starEach [.Name nm p1, .Name x p2] (suF Xf a cls d i).env = (false, eval (.Name nm p1) (suF Xf a cls d i).env) :: starEach [.Name x p2] (suF Xf a cls d i).env := by intro _; rfl) (he2 : ∀ i, starEach [.Name x p2] (suF Xf a cls d i).env = (false, eval (.Name x p2) (suF Xf a cls d i).env) :: starEach [] (suF Xf a cls d i).env := by intro _; rfl) (hpl : ∀ i, (backTo pos (starEach [.Name x p2] (suF Xf a cls d i).env)).any (·.1) = false := by intro _; rfl) :
    PD (suF Xf a cls d) K m (.Call (.Name "isinstance" p) [.Name nm p1, .Name x p2] [] pos) .s (e1 (gIsE rt) (eVar j)) m := by
  obtain ⟨D, hD, EC, hk⟩ := hi c l htb
  rw [hmc] at hD
  cases hD
  refine ⟨_, fun i => (by
    have e3 := F.kk i.i
    have := pe_callB (X := suF Xf a (.ref D) d i) (pos := pos) (p := p) (call_isX (X := Xf i.i) (a := a) (pn := i.pn) (by rw [e3]; exact EC) i.hz i.hf) (hg i) (by show (Xf i.i).mg _ = none; rw [F.mg_ i.i]; exact hI) bt_isinstance (pa_cons (pe_var (pos := p1) (hN i) (hvs i) hd hcd) (pa_cons (hT i) pa_nil (he2 i)) (he i)) (by decide) (by decide) (he i) (hpl i)
    rw [e3] at this
    exact this), fun {G H σ e A dd e' Q} st hf k => ?_⟩
  obtain ⟨ds, h1, h2, h3, _⟩ := xe_slot st hm
  have hf : ((gIsE rt (e.getD j .none)).bind fun r => some (r, e)) = some (dd, e') := hf
  rw [h1] at hf
  obtain ⟨r, h4, h5⟩ := Option.bind_eq_some_iff.mp hf
  cases h5
  obtain ⟨b, h6, h7⟩ := Option.bind_eq_some_iff.mp (show (rt.lookup c).bind _ = _ from h4)
  cases h7
  exact ⟨.ref a, h2, v, cv, b, rfl, fun z hz => ⟨fl, h3 z hz⟩, hv, hk b h6, ans_s st (.bl b) k⟩
/-- the classes of a tuple display -/
inductive ClsE : (X : Cx) → List Expr → List V → Prop
  | nil (X : Cx) : ClsE X [] []
  | cons {X : Cx} {x : Str} {q : Pos} {es : List Expr} {v : V} {vs : List V} : PE X (.Name x q) (tC v) → (starEach (.Name x q :: es) X.env = (false, eval (.Name x q) X.env) :: starEach es X.env) → ClsE X es vs → ClsE X (.Name x q :: es) (v :: vs)
def tCs : List V → TA
  | [] => tNil
  | v :: vs => tCons (tC v) (tCs vs)
theorem clsE_pa {X : Cx} {es : List Expr} {vs : List V} (h : ClsE X es vs) : PA X es (tCs vs) := by
  induction h with
  | nil => exact pa_nil
  | cons h1 h2 _ ih => exact pa_cons h1 ih h2
theorem tCs_to {vs : List V} : ∀ {σ : St} {H : Hp} {Q : List V → Hp → Prop}, Q vs H → tCs vs σ H Q := by
  induction vs with
  | nil => intro σ H Q h; exact h
  | cons v vs ih => intro σ H Q h; exact ih h
include F in
theorem pd_isXT {es : List Expr} {vs : List V} {cvs : List Value} {k1 : Nat} (j : Nat) (hm : m[j]? = some (.e a d fl c)) (hmc : mg c = some cls) (htb : tb.lookup c = some l) (hi : IsTs K mg tb rt cvs) (hI : mg "isinstance" = none) (hT : ∀ i : SI Xf cls d, ClsE (suF Xf a cls d i) es vs) (hv : Paired ClsV vs cvs) (hz : vs.length ≤ sizeLine := by decide)
    (hN : ∀ i, (suF Xf a cls d i).N[j]? = some nm := by intro _; rfl) (hvs : ∀ i, Vis (suF Xf a cls d i).env.scope nm := by first | (intro _; exact Or.inl rfl) | (intro _; exact Or.inr (Or.inl rfl)) | (intro _; exact Or.inr (Or.inr rfl))) (hd : (nm == ("__debug__" : Str)) = false := by decide) (hcd : (nm == ("__classdict__" : Str)) = false := by decide) (hg : ∀ i, Gl (suF Xf a cls d i) "isinstance" := by intro _; rfl)
    (he : ∀ i, starEach [.Name nm p1, .Tuple es k1 p2] (suF Xf a cls d i).env = (false, eval (.Name nm p1) (suF Xf a cls d i).env) :: starEach [.Tuple es k1 p2] (suF Xf a cls d i).env := by intro _; rfl) (he2 : ∀ i, starEach [.Tuple es k1 p2] (suF Xf a cls d i).env = (false, eval (.Tuple es k1 p2) (suF Xf a cls d i).env) :: starEach [] (suF Xf a cls d i).env := by intro _; rfl) (hpl : ∀ i, (backTo pos (starEach [.Tuple es k1 p2] (suF Xf a cls d i).env)).any (·.1) = false := by intro _; rfl) :
    PD (suF Xf a cls d) K m (.Call (.Name "isinstance" p) [.Name nm p1, .Tuple es k1 p2] [] pos) .s (e1 (gIsE rt) (eVar j)) m := by
  obtain ⟨D, hD, EC, hk⟩ := hi c l htb
  rw [hmc] at hD
  cases hD
  refine ⟨_, fun i => (by
    have e3 := F.kk i.i
    have := pe_callB (X := suF Xf a (.ref D) d i) (pos := pos) (p := p) (call_isXT (X := Xf i.i) (a := a) (pn := i.pn) (by rw [e3]; exact EC) i.hz i.hf) (hg i) (by show (Xf i.i).mg _ = none; rw [F.mg_ i.i]; exact hI) bt_isinstance (pa_cons (pe_var (pos := p1) (hN i) (hvs i) hd hcd) (pa_cons (pe_tup (x1 := k1) (pos := p2) (clsE_pa (hT i))) pa_nil (he2 i)) (he i)) (by decide) (by decide) (he i) (hpl i)
    rw [e3] at this
    exact this), fun {G H σ e A dd e' Q} st hf k => ?_⟩
  obtain ⟨ds, h1, h2, h3, _⟩ := xe_slot st hm
  have hf : ((gIsE rt (e.getD j .none)).bind fun r => some (r, e)) = some (dd, e') := hf
  rw [h1] at hf
  obtain ⟨r, h4, h5⟩ := Option.bind_eq_some_iff.mp hf
  cases h5
  obtain ⟨b, h6, h7⟩ := Option.bind_eq_some_iff.mp (show (rt.lookup c).bind _ = _ from h4)
  cases h7
  refine ⟨.ref a, h2, tCs_to ⟨hz, fun tp htp => ?_⟩⟩
  obtain ⟨s1, st1, nd1, gp⟩ := new_o (o := .tup vs) (B := []) st htp
  refine ⟨tp, vs, cvs, b, rfl, fun z hz => ⟨fl, by rw [upd_ne (ne_of_none (h3 z hz) htp)]; exact h3 z hz⟩, upd_same, hv, hk b h6, ?_⟩
  exact k G _ (.bl b) [] A (s1.less fun b hb => List.mem_cons_of_mem _ hb) st1 (.s (.bl b)) st1.nd
include F in
theorem pd_fldX (j : Nat) {f : Str} (hm : m[j]? = some (.e a d fl c)) (hmc : mg c = some cls) (htb : tb.lookup c = some (fl.map (·.1))) (hdf : d = none → fl = []) (hi : FldT K mg tb)
    (hN : ∀ i, (suF Xf a cls d i).N[j]? = some nm := by intro _; rfl) (hvs : ∀ i, Vis (suF Xf a cls d i).env.scope nm := by first | (intro _; exact Or.inl rfl) | (intro _; exact Or.inr (Or.inl rfl)) | (intro _; exact Or.inr (Or.inr rfl))) (hd : (nm == ("__debug__" : Str)) = false := by decide) (hcd : (nm == ("__classdict__" : Str)) = false := by decide)
    (hb : ∀ i, attributeBase (.Name nm p1) f (Xf i).env (eval (.Name nm p1) (Xf i).env) = eval (.Name nm p1) (Xf i).env := by intro _; rfl) :
    PD (suF Xf a cls d) K m (.Attribute (.Name nm p1) f pos) .s (e1 (gFldE tb f) (eVar j)) m := by
  obtain ⟨D, hD, XC, hk⟩ := hi c _ htb
  rw [hmc] at hD
  cases hD
  by_cases hno : f ∈ fl.map (·.1)
  · refine ⟨_, fun i => pe_xf (X := Xf i.i) (pos := pos) (n := f) (a := a) (cls := .ref D) (d := d) (pn := i.pn) (C := D) (by rw [F.kk i.i]; exact XC) (by rw [F.kk i.i]; exact hk f hno) i.hz i.hf (pe_var (X := suF Xf a (.ref D) d i) (pos := p1) (hN i) (hvs i) hd hcd) (hb i.i), fun {G H σ e A dd e' Q} st hf k => ?_⟩
    obtain ⟨ds, h1, h2, h3, h4⟩ := xe_slot st hm
    have hf : ((gFldE tb f (e.getD j .none)).bind fun r => some (r, e)) = some (dd, e') := hf
    rw [h1] at hf
    obtain ⟨r, h5, h6⟩ := Option.bind_eq_some_iff.mp hf
    cases h6
    have h5 : ((tb.lookup c).bind fun l => (l.zip ds).lookup f) = some dd := h5
    rw [htb, Option.bind_some] at h5
    -- the same place on both sides
    have key : ∀ (fl : List (Str × V)) (ds : List PyData), DqA K G (fl.map (·.2)) ds → ((fl.map (·.1)).zip ds).lookup f = some dd → ∃ v, fl.lookup f = some v ∧ Dq K G v dd := by
      intro fl
      induction fl with
      | nil => intro ds _ h; cases ds <;> cases h
      | cons q fl ih =>
        intro ds hq h
        cases ds with
        | nil => cases h
        | cons y ds =>
          obtain ⟨g, z⟩ := q
          rw [List.map_cons, List.zip_cons_cons, List.lookup_cons] at h
          rw [List.lookup_cons]
          cases hfg : f == g with
          | true => rw [hfg] at h; cases h; exact ⟨z, rfl, hq.head⟩
          | false => rw [hfg] at h; exact ih ds hq.tail h
    obtain ⟨v, hv, qv⟩ := key fl ds h4 h5
    cases d with
    | none => rw [hdf rfl] at hv; cases hv
    | some x1 => exact ⟨.ref a, h2, rfl, rfl, x1, fl, v, rfl, h3 x1 rfl, hv, ans_s st qv k⟩
  · -- no such field: nothing to show
    refine ⟨fun _ _ _ => False, fun i => ⟨fun _ _ _ _ _ _ z => z.elim⟩, fun {G H σ e A dd e' Q} st hf k => ?_⟩
    exfalso
    obtain ⟨ds, h1, h2, h3, h4⟩ := xe_slot st hm
    have hf : ((gFldE tb f (e.getD j .none)).bind fun r => some (r, e)) = some (dd, e') := hf
    rw [h1] at hf
    obtain ⟨r, h5, h6⟩ := Option.bind_eq_some_iff.mp hf
    have h5 : ((tb.lookup c).bind fun l => (l.zip ds).lookup f) = some r := h5
    rw [htb, Option.bind_some] at h5
    have key : ∀ (ns : List Str) (ds : List PyData), f ∉ ns → (ns.zip ds).lookup f = none := by
      intro ns
      induction ns with
      | nil => intro ds _; rfl
      | cons g ns ih =>
        intro ds hf
        cases ds with
        | nil => rfl
        | cons y ds =>
          rw [List.zip_cons_cons, List.lookup_cons]
          have : (f == g) = false := by simpa using fun z : f = g => hf (by rw [z]; exact List.mem_cons_self ..)
          rw [this]
          exact ih ds fun z => hf (List.mem_cons_of_mem _ z)
    rw [key _ _ hno] at h5
    cases h5
end

/-! ### the classes -/
theorem ct_nil {p : Str → List Str → Prop} : ∀ c l, ([] : CT).lookup c = some l → p c l := fun c l h => by cases h
theorem ct_cons {p : Str → List Str → Prop} {x : Str} {l0 : List Str} {tb : CT} (h : p x l0) (t : ∀ c l, tb.lookup c = some l → p c l) : ∀ c l, (((x, l0) :: tb : CT)).lookup c = some l → p c l := fun c l z => by
  rw [List.lookup_cons] at z
  cases e : c == x with
  | true => rw [e] at z; cases z; rw [eq_of_beq e]; exact h
  | false => rw [e] at z; exact t c l z
theorem kit_ref {K : PySem.W.Frag} {D C : Addr} {b : Bool} (hc : PySem.W.hasDictIn K C = true) (ht : PySem.W.typeIn K (.ref C) = some (.type "type")) (h : PySem.W.subIn K (.ref D) (.ref C) = some b) : PySem.W.kitOne K (.ref D) (.ref C) = (if (Value.ref D == Value.ref C) = true then some true else some b) := by
  unfold PySem.W.kitOne
  split
  · rfl
  · show (if ((PySem.W.clsIn K C).isSome && PySem.W.typeIn K (.ref C) == some (.type "type")) = true then PySem.W.subIn K (.ref D) (.ref C) else none) = _
    rw [any_some' hc, ht, h]; rfl
theorem kit_typ {K : PySem.W.Frag} {D : Addr} {T : String} {b : Bool} (hm : PySem.W.kitMeta T = true) (h : PySem.W.subIn K (.ref D) (.type T) = some b) : PySem.W.kitOne K (.ref D) (.type T) = some b := by
  show (if PySem.W.kitMeta T = true then PySem.W.subIn K (.ref D) (.type T) else none) = _
  rw [if_pos hm, h]
theorem init2 {P : Program} {w : World} {K : PySem.W.Frag} {mg : Str → Option Value} {base : Heap} {C fI : Addr} {fd : FuncData} {qual f y f2 y2 : Str} {st : Stmt} {p1 p2 p3 p4 q1 q2 q3 q4 : Pos} (F : L2.Fun K "__init__" qual st fI fd) (S : FnScope ["self", y, y2] ["self", y, y2] (defScope st)) (hb : defBody st = [.Assign [.Attribute (.Name "self" p1) f p2] (.Name y p3) p4, .Assign [.Attribute (.Name "self" q1) f2 q2] (.Name y2 q3) q4])
    (T : OexC K C) (hno : PySem.W.findIn K (.ref C) f = some none) (hno2 : PySem.W.findIn K (.ref C) f2 = some none)
    (hv1 : Vis (defScope st) "self") (hv2 : Vis (defScope st) y) (hv3 : Vis (defScope st) y2) (hdy : (y == ("__debug__" : Str)) = false := by decide) (hcy : (y == ("__classdict__" : Str)) = false := by decide) (hdy2 : (y2 == ("__debug__" : Str)) = false := by decide) (hcy2 : (y2 == ("__classdict__" : Str)) = false := by decide)
    (hs : ∀ env, swapsWith (.Name y p3) (some (.Attribute (.Name "self" p1) f p2)) p4.line env = pure false := by intro _; rfl) (hs2 : ∀ env, swapsWith (.Name y2 q3) (some (.Attribute (.Name "self" q1) f2 q2)) q4.line env = pure false := by intro _; rfl) : FnOk P w K mg base CX0 1 fI fd ["self", y, y2] (spIn C [f, f2]) := by
  refine F.ok S (fun vs H Q E h => ?_) fun cdv A outer s H vs Q E hr h => ⟨tSeq (tOst K f (tVar 0) (tVar 1)) (tOst K f2 (tVar 0) (tVar 2)), ?_, ?_⟩
  · obtain ⟨a, ys, rfl, hl, _⟩ := h
    simp [hl]
  · rw [hb]
    exact pss_cons (ps_ost (pe_var rfl hv1) (pe_var rfl hv2 hdy hcy) (hs _)) (pss_one (ps_ost (pe_var rfl hv1) (pe_var rfl hv3 hdy2 hcy2) (hs2 _)))
  · obtain ⟨a, ys, rfl, hl, he, k⟩ := h
    match ys, hl with
    | [z1, z2], _ =>
      refine ⟨z1, rfl, .ref a, rfl, a, C, rfl, T, hno, .inl ⟨he, fun dx hd ne => ?_⟩⟩
      refine ⟨z2, rfl, .ref a, rfl, a, C, rfl, T, hno2, .inr ⟨dx, [(f, z1)], upd_same, by rw [upd_ne ne, upd_same], by simp, ?_⟩⟩
      exact k dx _ hd ne (by rw [upd_ne (fun z => ne z.symm), upd_same]) (by rw [upd_same]; rfl) fun b h1 h2 => by rw [upd_ne h2, upd_ne h1, upd_ne h2]
end DL

namespace DL
open PySem L2 PySem.Spec

theorem nrt_pre {js : List Nat} {f : Sf} (h : NoRt f) : NoRt (sPre js f) := fun e d e' z => h _ _ _ z
theorem nrt_post {js jr : List Nat} {f : Sf} (h : NoRt f) : NoRt (sPost js jr f) := fun e d e' z => by
  obtain ⟨⟨o, e1⟩, h1, h2⟩ := Option.bind_eq_some_iff.mp z
  have h2 := Option.some.inj h2
  have h3 : o = .rt d := congrArg Prod.fst h2
  subst h3
  exact h _ _ _ h1
theorem nrt_par {i j : Nat} {f : Lf} : NoRt (sPar i j f) := fun e d e' z => by
  obtain ⟨⟨ds, e1⟩, h1, h2⟩ := Option.bind_eq_some_iff.mp z
  split at h2 <;> cases h2
theorem nrt_for {it : Lf} {g : Gf} {f : Sf} (h : NoRt f) : NoRt (sFor it g f) := fun e d e' z => by
  obtain ⟨⟨ds, e1⟩, h1, h2⟩ := Option.bind_eq_some_iff.mp z
  have key : ∀ ds e, forL g f ds e ≠ some (.rt d, e') := by
    intro ds
    induction ds with
    | nil => intro e h; cases h
    | cons x ds ih =>
      intro e hh
      unfold forL at hh
      obtain ⟨e2, _, hh⟩ := Option.bind_eq_some_iff.mp hh
      obtain ⟨⟨o, e3⟩, h5, hh⟩ := Option.bind_eq_some_iff.mp hh
      cases o with
      | nx => exact ih _ hh
      | ct => exact ih _ hh
      | bk => cases hh
      | rt r => exact h _ _ _ h5
  exact key _ _ h2
/-- the k-th statement of a class's body -/
def clsAt (s : Stmt) (k : Nat) : Stmt := match s with
  | .ClassDef (body := b) .. => b.getD k (.Pass ⟨0, 0, 0, 0⟩)
  | s => s
section
variable {K : PySem.W.Frag} {C CL N : Addr} {nm q : Str} {bs : List Value} {sn : List Str} {sub : List Value} {ab : Bool} {col : Option Bool} {dd : Option Addr} {m0 m1 m2 m3 m5 : Option Value}
theorem oex_mk (xC : K.lookup C = some (excClassObj nm q C N bs [.ref CL, .type "ValueError", .type "Exception", .type "BaseException", .type "object"] true sn sub ab col dd m0 m1 m2 m3 m5 "ValueError.__new__"))
    (sa : PySem.W.findIn K (.ref C) "__setattr__" = some (some (.builtin "object.__setattr__"))) (eC : PySem.W.subIn K (.ref C) (.type "BaseException") = some true) (tC : PySem.W.typeIn K (.ref C) = some (.type "type")) (kC : PySem.W.keepIn K (.ref C) = true) : OexC K C :=
  ⟨⟨nm, q, N, bs, _, sn, sub, ab, col, dd, m0, m1, m2, m3, m5, xC, by with_unfolding_all rfl⟩, sa, eC, tC, kC⟩
end
end DL

namespace DL
open PySem L2 PySem.Spec

/-! ### a, b, c = a record: c is its own list, now known by two names -/
/-- the first two of three -/
def gHd2 : PyData → Option (PyData × PyData)
  | .list [d0, d1, _] => some (d0, d1)
  | _ => none
theorem hd2_of {d : PyData} {q : PyData × PyData} (h : gHd2 d = some q) : ∃ c2, d = .list [q.1, q.2, c2] := by
  unfold gHd2 at h
  split at h
  · cases h; exact ⟨_, rfl⟩
  · cases h
/-- the names' data: a and b are told; c is looked at through the record -/
def sUnal (i j0 j1 : Nat) : Sf := fun e => (gHd2 (e.getD i .none)).bind fun q => some (.nx, (e.set j0 q.1).set j1 q.2)
section
variable {ι : Type} {Xf : ι → Cx} {P : Program} {w : World} {K : PySem.W.Frag} {mg : Str → Option Value} {base : Heap} {n : Nat} [F : Fam Xf P w K mg base n]
variable {M : Mk} {m mn : List Ty} {pos pos' p tpos q0 q1 q2 : Pos} {x x0 x1 x2 : Str} {rest : List Stmt} {g : Sf} {t2 : Ty}
include F in
theorem ss_unal [FG : FamG Xf] (i j0 j1 j2 : Nat) (hm : m[i]? = some (.r [.s, .s, .l t2])) (hr : ∀ v2 : V, PSsd Xf K M ((((m.set i (.r [.s, .s, .k v2 (.l t2)])).set j0 .s).set j1 .s).set j2 (.a v2)) rest g mn)
    (d0 : j0 < m.length ∧ j1 < m.length ∧ j2 < m.length := by decide) (di : i ≠ j0 ∧ i ≠ j1 ∧ i ≠ j2 ∧ j0 ≠ j1 ∧ j0 ≠ j2 ∧ j1 ≠ j2 := by decide) (dp : j0 ∉ M.po ∧ j1 ∉ M.po ∧ j2 ∉ M.po := by decide)
    (hN : ∀ z, (Xf z).N[i]? = some x := by intro _; rfl) (hv : ∀ z, Vis (Xf z).env.scope x := by first | (intro _; exact Or.inl rfl) | (intro _; exact Or.inr (Or.inl rfl)) | (intro _; exact Or.inr (Or.inr rfl))) (hd : (x == ("__debug__" : Str)) = false := by decide) (hcd : (x == ("__classdict__" : Str)) = false := by decide)
    (hi0 : ∀ z, (Xf z).N[j0]? = some x0 := by intro _; rfl) (hx0 : ∀ z, Loc (Xf z).env.scope x0 := by first | (intro _; exact Or.inl rfl) | (intro _; exact Or.inr rfl)) (hf0 : ∀ z, (Xf z).fn x0 = true ∨ (Xf z).env.scope.names.lookup x0 = some .local := by first | (intro _; exact Or.inl rfl) | (intro _; exact Or.inr rfl))
    (hi1 : ∀ z, (Xf z).N[j1]? = some x1 := by intro _; rfl) (hx1 : ∀ z, Loc (Xf z).env.scope x1 := by first | (intro _; exact Or.inl rfl) | (intro _; exact Or.inr rfl)) (hf1 : ∀ z, (Xf z).fn x1 = true ∨ (Xf z).env.scope.names.lookup x1 = some .local := by first | (intro _; exact Or.inl rfl) | (intro _; exact Or.inr rfl))
    (hi2 : ∀ z, (Xf z).N[j2]? = some x2 := by intro _; rfl) (hx2 : ∀ z, Loc (Xf z).env.scope x2 := by first | (intro _; exact Or.inl rfl) | (intro _; exact Or.inr rfl)) (hf2 : ∀ z, (Xf z).fn x2 = true ∨ (Xf z).env.scope.names.lookup x2 = some .local := by first | (intro _; exact Or.inl rfl) | (intro _; exact Or.inr rfl))
    {kk : Nat} (ha0 : ∀ z, (assignEach [.Name x0 q0, .Name x1 q1, .Name x2 q2] (Xf z).env).map (·.snd) = assign (.Name x0 q0) (Xf z).env :: (assignEach [.Name x1 q1, .Name x2 q2] (Xf z).env).map (·.snd) := by intro _; rfl)
    (ha1 : ∀ z, (assignEach [.Name x1 q1, .Name x2 q2] (Xf z).env).map (·.snd) = assign (.Name x1 q1) (Xf z).env :: (assignEach [.Name x2 q2] (Xf z).env).map (·.snd) := by intro _; rfl)
    (ha2 : ∀ z, (assignEach [.Name x2 q2] (Xf z).env).map (·.snd) = assign (.Name x2 q2) (Xf z).env :: (assignEach [] (Xf z).env).map (·.snd) := by intro _; rfl)
    (hln : ∀ z, (assignEach [.Name x0 q0, .Name x1 q1, .Name x2 q2] (Xf z).env).length = 3 := by intro _; rfl) (hst : ∀ z, (assignEach [.Name x0 q0, .Name x1 q1, .Name x2 q2] (Xf z).env).findIdx? (·.1) = none := by intro _; rfl)
    (hs : ∀ z, swapsWithSole [.Tuple [.Name x0 q0, .Name x1 q1, .Name x2 q2] kk tpos] (.Name x p) pos.line (Xf z).env = pure false := by intro _; rfl) (hw : ∀ z, swappedStores [.Tuple [.Name x0 q0, .Name x1 q1, .Name x2 q2] kk tpos] (.Name x p) (Xf z).env = pure none := by intro _; rfl)
    (h1 : ∀ z, (assignEach [.Tuple [.Name x0 q0, .Name x1 q1, .Name x2 q2] kk tpos] (Xf z).env).map (·.2) = [assign (.Tuple [.Name x0 q0, .Name x1 q1, .Name x2 q2] kk tpos) (Xf z).env] := by intro _; rfl) :
    PSsd Xf K M m (.Assign [.Tuple [.Name x0 q0, .Name x1 q1, .Name x2 q2] kk tpos] (.Name x p) pos :: rest) (sSeq (sUnal i j0 j1) g) mn := by
  let tr : TS := fun D σ H => ∃ t : TS, (∀ z, PSs (Xf z) rest t) ∧ t D σ H
  refine ⟨tSeq (tAsg (tVar i) (gLst K 3 (gCons (gName j0) (gCons (gName j1) (gCons (gName j2) gNil))))) tr, fun z => ?_, fun {G H σ e A o e' D} st hf k => ?_⟩
  · have e3 := F.kk z
    have pg := pg_lst (X := Xf z) (pos := tpos) (k := kk) (FG.calm z) (pgs_cons (pg_name (F.nd z) (hi0 z) (hx0 z) (hf0 z)) (pgs_cons (pg_name (F.nd z) (hi1 z) (hx1 z) (hf1 z)) (pgs_cons (pg_name (F.nd z) (hi2 z) (hx2 z) (hf2 z)) pgs_nil (ha2 z)) (ha1 z)) (ha0 z)) (hln z) (hst z)
    rw [e3] at pg
    exact pss_cons (ps_asg (pe_var (pos := p) (hN z) (hv z) hd hcd) pg (hs z) (hw z) (h1 z)) (pss_imp (pss_any (X := Xf z) (st := rest)) fun D σ H ⟨t, pt, qt⟩ => ⟨t, pt z, qt⟩)
  · obtain ⟨⟨o1, e1⟩, hf1', hf2'⟩ := Option.bind_eq_some_iff.mp hf
    obtain ⟨dd, v, Aj, A0, a1, a2, a3, a4, ap⟩ := ownA_take st.own hm
    have ed : e.getD i .none = dd := by rw [List.getD_eq_getElem?_getD, a1]; rfl
    unfold sUnal at hf1'
    rw [ed] at hf1'
    obtain ⟨⟨c0, c1⟩, hc1, hf1'⟩ := Option.bind_eq_some_iff.mp hf1'
    obtain ⟨c2, rfl⟩ := hd2_of hc1
    · cases hf1'
      have hf2' : g ((e.set j0 c0).set j1 c1) = some (o, e') := hf2'
      cases a3 with
      | @r _ a vs _ Ar ga ha hz oA =>
        -- the three parts
        have key : ∃ v0 v1 v2 : V, vs = [v0, v1, v2] ∧ Dq K G v0 c0 ∧ Dq K G v1 c1 ∧ OwnA K G H [.s, .s, .k v2 (.l t2)] [c0, c1, c2] ([v0, v1, v2].map some) Ar := by
          have ln := (ownA_len oA).2
          rw [List.length_map] at ln
          match vs, ln with
          | [v0, v1, v2], _ =>
            cases oA with
            | cons b0 oA =>
              cases oA with
              | cons b1 oA =>
                cases oA with
                | cons b2 oA =>
                  cases oA
                  cases b0 with
                  | s q0 =>
                    cases b1 with
                    | s q => exact ⟨v0, v1, v2, rfl, q0, q, .cons (.s q0) (.cons (.s q) (.cons (.k b2) .nil))⟩
        obtain ⟨v0, v1, v2, rfl, q0', q1', oB⟩ := key
        have oN : Own K G H (.r [.s, .s, .k v2 (.l t2)]) (.list [c0, c1, c2]) (some (.ref a)) (a :: Ar) := .r ga ha hz oB
        have hu : (m.set i .u)[i]? = some .u := by
          have := (List.getElem?_eq_some_iff.mp hm).1
          simp [this]
        obtain ⟨A1, oA1, pA1⟩ := ownA_put a4 hu oN
        rw [List.set_set, set_id a1, set_id (l := σ) a2] at oA1
        have st1 : Stt K (m.set i (.r [.s, .s, .k v2 (.l t2)])) G H σ e A1 := ⟨oA1, pA1.nodup_iff.mpr (ap.nodup_iff.mp st.nd), st.sub⟩
        obtain ⟨A2, st2, i2⟩ := stt_set st1 (by rw [List.length_set]; exact d0.1) (.s q0') (Av := []) st1.nd
        obtain ⟨A3, st3, i3⟩ := stt_set st2 (j := j1) (by simp only [List.length_set]; exact d0.2.1) (.s q1') (Av := []) st2.nd
        obtain ⟨A4, st4, i4⟩ := stt_set st3 (j := j2) (by simp only [List.length_set]; exact d0.2.2) (.a (((e.set j0 c0).set j1 c1).getD j2 .none) v2) (Av := []) st3.nd
        rw [set_self] at st4
        obtain ⟨t, pt, dt⟩ := (hr v2).ex
        have sub : ∀ b ∈ A4, b ∈ A := fun b hb => ap.mem_iff.mpr (pA1.mem_iff.mp (i2 b (i3 b (i4 b hb))))
        have s4 : Step A G H A4 G H := ⟨Same.refl _, fun _ _ h _ => h, fun b hb => .inl (sub b hb), fun b hb ⟨o, ho⟩ => by rw [hb] at ho; cases ho⟩
        refine ⟨.ref a, a2, a, [v0, v1, v2], rfl, .inl (.inl ha), rfl, v0, [v1, v2], rfl, v1, [v2], rfl, v2, [], rfl, rfl, t, pt, dt st4 hf2' (k.back s4 ?_)⟩
        exact ((Pin.set dp.1).trans (Pin.set dp.2.1)).trans (Pin.set dp.2.2)
end
/-! ### a list looked at by its second name -/
section
variable {ι : Type} {Xf : ι → Cx} {P : Program} {w : World} {K : PySem.W.Frag} {mg : Str → Option Value} {base : Heap} {n : Nat} [F : Fam Xf P w K mg base n]
variable {m : List Ty} {pos : Pos} {x : Str} {ts : List Ty} {t : Ty} {v : V}
theorem alias_at {G H : Hp} {σ : St} {e : En} {A : List Addr} {i k j : Nat} {d : PyData} (st : Stt K m G H σ e A) (hi : m[i]? = some (.r ts)) (hk : ts[k]? = some (.k v t)) (hj : m[j]? = some (.a v)) (hf : gSub1 (qVar i) (qC (.int (k : Nat))) e = some d) :
    σ[j]? = some (some v) ∧ ∃ (a : Addr) (vs : List V) (ds : List PyData) (Ad A0 Aj Ar : List Addr), e[i]? = some (.list ds) ∧ ds[k]? = some d ∧ σ[i]? = some (some (.ref a)) ∧ G a = none ∧ H a = some (.lst vs) ∧ vs.length ≤ sizeLine ∧ vs[k]? = some v ∧ Own K G H t d (some v) Aj ∧
      OwnA K G H (ts.set k .u) ds (vs.map some) A0 ∧ Ad.Perm (Aj ++ A0) ∧ A.Perm ((a :: Ad) ++ Ar) ∧ OwnA K G H (m.set i .u) e σ Ar := by
  obtain ⟨dj, vj, Bj, B0, c1, c2, c3, _, _⟩ := ownA_take st.own hj
  obtain ⟨rfl, _⟩ := own_of_a c3
  refine ⟨c2, ?_⟩
  obtain ⟨dl, h1, hf⟩ := Option.bind_eq_some_iff.mp hf
  obtain ⟨di, h2, hf⟩ := Option.bind_eq_some_iff.mp hf
  cases h2
  cases h1
  obtain ⟨dd, vv, Aj, A0, a1, a2, a3, a4, ap⟩ := ownA_take st.own hi
  have ed : e.getD i .none = dd := by rw [List.getD_eq_getElem?_getD, a1]; rfl
  rw [ed] at hf
  cases a3 with
  | @r _ a vs ds A1 ga ha hz oA =>
    have hf : (ixN ds.length ((k : Nat) : Int)).bind (fun j => ds[j]?) = some d := hf
    obtain ⟨j', hj', hd⟩ := Option.bind_eq_some_iff.mp hf
    have hjk : j' = k := by
      have q := ixN_seq hj'
      have q1 := q.1
      rw [seqIndex_of (by omega) (by omega)] at q1
      have := Option.some.inj q1
      omega
    subst hjk
    obtain ⟨d', v', Ak, A2, e1, e2, oj, oR, pj⟩ := ownA_take oA (j := j') hk
    rw [hd] at e1; cases e1
    obtain ⟨rfl, oj⟩ := own_of_k oj
    rw [List.getElem?_map] at e2
    obtain ⟨w', hw, e3⟩ := Option.map_eq_some_iff.mp e2
    cases e3
    exact ⟨a, vs, ds, A1, A2, Ak, A0, a1, hd, a2, ga, ha, hz, hw, oj, oR, pj, ap, a4⟩
theorem pq_al (i k j : Nat) (hi : m[i]? = some (.r ts)) (hk : ts[k]? = some (.k v t)) (hj : m[j]? = some (.a v)) (hn : nou t = true := by rfl) (hN : ∀ i, (Xf i).N[j]? = some x := by intro _; rfl)
    (hv : ∀ i, Vis (Xf i).env.scope x := by first | (intro _; exact Or.inl rfl) | (intro _; exact Or.inr (Or.inl rfl)) | (intro _; exact Or.inr (Or.inr rfl))) (hd : (x == ("__debug__" : Str)) = false := by decide) (hcd : (x == ("__classdict__" : Str)) = false := by decide) : PQ Xf K m (.Name x pos) (gSub1 (qVar i) (qC (.int (k : Nat)))) := by
  refine ⟨tVar j, fun i => pe_var (hN i) (hv i) hd hcd, fun {G H σ e A d Q} st hf kq => ?_⟩
  obtain ⟨c2, a, vs, ds, Ad, A0, Aj, Ar, _, _, _, _, _, _, _, oj, _⟩ := alias_at st hi hk hj hf
  obtain ⟨x', hx, q⟩ := own_snap oj st.sub hn
  cases hx
  exact ⟨v, c2, kq H v (Same.refl H) q⟩
theorem pp_al (i k j : Nat) (hi : m[i]? = some (.r ts)) (hk : ts[k]? = some (.k v (.l t))) (hj : m[j]? = some (.a v)) (hN : ∀ i, (Xf i).N[j]? = some x := by intro _; rfl)
    (hv : ∀ i, Vis (Xf i).env.scope x := by first | (intro _; exact Or.inl rfl) | (intro _; exact Or.inr (Or.inl rfl)) | (intro _; exact Or.inr (Or.inr rfl))) (hd : (x == ("__debug__" : Str)) = false := by decide) (hcd : (x == ("__classdict__" : Str)) = false := by decide) : PPl Xf K m (.Name x pos) (.l t) (gSub1 (qVar i) (qC (.int (k : Nat)))) (pSub1 (qVar i) (qC (.int (k : Nat))) (pVar i)) := by
  refine ⟨tVar j, fun i => pe_var (hN i) (hv i) hd hcd, fun {G H σ e A d} st hf => ?_⟩
  obtain ⟨c2, a, vs, ds, Ad, A0, Aj, Ar, e1, e2, e3, ga, ha, hz, hw, oj, oR, pj, ap, o4⟩ := alias_at st hi hk hj hf
  obtain ⟨b, rfl⟩ : ∃ b : Addr, v = .ref b := by cases oj with | l => exact ⟨_, rfl⟩
  refine ⟨b, Aj, a :: (A0 ++ Ar), ?_, oj, fun {Q} kq => ⟨_, c2, kq H (Same.refl H)⟩, fun {G' H' d2 Ad'} sg o hr => ?_⟩
  · refine ap.trans (List.perm_iff_count.mpr fun z => ?_)
    have := List.perm_iff_count.mp pj z
    simp only [List.count_append, List.count_cons, List.cons_append] at this ⊢
    omega
  · have hA0 : ∀ b ∈ A0, H' b = H b ∧ G' b = none := fun b hb => hr b (List.mem_cons_of_mem _ (List.mem_append_left _ hb))
    have hAr : ∀ b ∈ Ar, H' b = H b ∧ G' b = none := fun b hb => hr b (List.mem_cons_of_mem _ (List.mem_append_right _ hb))
    have kl : k < ts.length := (List.getElem?_eq_some_iff.mp hk).1
    have hju : (ts.set k .u)[k]? = some .u := by rw [List.getElem?_set_self kl]
    obtain ⟨A2, o2, p2⟩ := ownA_put (ownA_fr oR sg (fun b hb => (hA0 b hb).2) fun b hb => (hA0 b hb).1) hju (.k o)
    have ev : (vs.map some)[k]? = some (some (.ref b)) := by rw [List.getElem?_map, hw]; rfl
    rw [List.set_set, set_id hk, set_id ev] at o2
    have hra := hr a (List.mem_cons_self ..)
    have o3 : Own K G' H' (.r ts) (.list (ds.set k d2)) (some (.ref a)) (a :: A2) := .r hra.2 (by rw [hra.1]; exact ha) hz o2
    have hiu : (m.set i .u)[i]? = some .u := by
      have := (List.getElem?_eq_some_iff.mp hi).1
      simp [this]
    obtain ⟨A3, o5, p5⟩ := ownA_put (ownA_fr o4 sg (fun b hb => (hAr b hb).2) fun b hb => (hAr b hb).1) hiu o3
    rw [List.set_set, set_id hi, set_id (l := σ) e3] at o5
    refine ⟨A3, ?_, p5.trans (List.perm_iff_count.mpr fun z => ?_)⟩
    · have : pSub1 (qVar i) (qC (.int (k : Nat))) (pVar i) e d2 = e.set i (.list (ds.set k d2)) := by
        have kd : k < ds.length := (List.getElem?_eq_some_iff.mp e2).1
        show e.set i (setD ((some (e.getD i .none)).getD .none) (.int (k : Nat)) d2) = _
        rw [List.getD_eq_getElem?_getD, e1]
        show e.set i (match ixN ds.length ((k : Nat) : Int) with | some j => .list (ds.set j d2) | none => .list ds) = _
        have : ixN ds.length ((k : Nat) : Int) = some k := by
          unfold ixN
          simp [kd]
        rw [this]
      rw [this]; exact o5
    · have := List.perm_iff_count.mp p2 z
      simp only [List.count_append, List.count_cons, List.cons_append] at this ⊢
      omega
end
/-! ### a list handed in first, read by what follows, moved at the end -/
def lAl (j : Nat) (r : Lf) : Lf := fun e => (r e).bind fun p => some (p.2.getD j .none :: p.1, p.2)
section
variable {ι : Type} {Xf : ι → Cx} {P : Program} {w : World} {K : PySem.W.Frag} {mg : Str → Option Value} {base : Heap} {n : Nat} [F : Fam Xf P w K mg base n]
variable {m m2 : List Ty} {p : Pos} {es : List Expr} {fr : Lf} {t : Ty} {tys : List Ty} {L : List (Option Nat)}
theorem pl_al (j : Nat) {x : Str} (hr : PAL Xf K m es tys L fr m2) (h0 : m[j]? = some (.l t) := by rfl) (h2 : m2[j]? = some (.l t) := by rfl) (hN : ∀ i, (Xf i).N[j]? = some x := by intro _; rfl)
    (hv : ∀ i, Vis (Xf i).env.scope x := by first | (intro _; exact Or.inl rfl) | (intro _; exact Or.inr (Or.inl rfl)) | (intro _; exact Or.inr (Or.inr rfl))) (hd : (x == ("__debug__" : Str)) = false := by decide) (hcd : (x == ("__classdict__" : Str)) = false := by decide)
    (hs : ∀ i, starEach (.Name x p :: es) (Xf i).env = (false, eval (.Name x p) (Xf i).env) :: starEach es (Xf i).env := by intro _; rfl) : PAL Xf K m (.Name x p :: es) (.l t :: tys) (none :: L) (lAl j fr) (m2.set j .u) := by
  obtain ⟨tr, pr, dr⟩ := hr.ex
  refine ⟨_, fun i => pa_cons (pe_var (pos := p) (hN i) (hv i) hd hcd) (pr i) (hs i), fun {G H σ e A ds e' Q} st hf k => ?_⟩
  obtain ⟨⟨ds1, e1⟩, hf1, hf⟩ := Option.bind_eq_some_iff.mp hf
  cases hf
  obtain ⟨d0, v0, A0, B0, a1, a2, a3, _, _⟩ := ownA_take st.own h0
  have hv0 : ∃ y, v0 = some y := by cases a3 with | l => exact ⟨_, rfl⟩
  obtain ⟨y, rfl⟩ := hv0
  refine ⟨y, a2, dr st hf1 fun G2 H2 vs A2 B2 s2 st2 o2 nd2 hl => ?_⟩
  obtain ⟨d', v', Aj, A3, b1, b2, b3, b4, bp⟩ := ownA_take st2.own h2
  rw [a2] at b2
  cases b2
  have ed : e1.getD j .none = d' := by rw [List.getD_eq_getElem?_getD, b1]; rfl
  have pall : (A2 ++ B2).Perm ((Aj ++ A2) ++ A3) := by
    refine (List.Perm.append_left A2 bp).trans (List.perm_iff_count.mpr fun z => ?_)
    simp only [List.count_append]; omega
  have nd3 := pall.nodup_iff.mp nd2
  have ndB := List.nodup_append.mp (bp.nodup_iff.mp st2.nd)
  refine k G2 H2 (y :: vs) (Aj ++ A2) A3 (s2.less fun a ha => pall.mem_iff.mpr ha) ⟨b4, ndB.2.1, st2.sub⟩ ?_ nd3 fun kk j' hj => ?_
  · show OwnA K G2 H2 (.l t :: tys) (e1.getD j .none :: ds1) (some y :: vs.map some) (Aj ++ A2)
    rw [ed]
    exact .cons b3 o2
  · cases kk with
    | zero => simp at hj
    | succ kk => exact hl kk j' (by simpa using hj)
end
end DL

/-! sorted of a list of one -/
namespace DL
open PySem PySem.W PySem.Calls PyProof.Rows
section
variable {prog : Program} {w : World} {A : Around} {E : Value → Shared → Prop} {s : Shared}
theorem sortsAt_one {v : Value} {d : PyData} {as : List Addr} (r : Reads s.heap v d as) (al : alike d d = true) (hn : d ≠ .none) (hu : A.units + d.depth < cLine) : SortsAt prog w A s (dataKind s.heap [d]) [v] := by
  have hal : AllAlike [d] := fun x hx y hy => by rw [List.mem_singleton.mp hx, List.mem_singleton.mp hy]; exact al
  refine ⟨fun y hy => ⟨_, dataKind_some hal (List.mem_singleton.mpr rfl) ((List.mem_singleton.mp hy).symm ▸ r : Reads s.heap y d as)⟩, general', fun E x y a b Q ha hb hq => ?_, fun h2 => absurd h2 (by simp)⟩
  obtain ⟨d1, as1, hd1, ra, rfl⟩ := dataKind_inv ha
  obtain ⟨d2, as2, hd2, rb, rfl⟩ := dataKind_inv hb
  obtain rfl := List.mem_singleton.mp hd1
  obtain rfl := List.mem_singleton.mp hd2
  show wpAny _ _ (oneLt' false x y) _ _ _
  exact oneLt_alike (fun h => nomatch h) ra rb al hn (by rw [Nat.min_self]; exact hu) hq
theorem sorted_one {l : Addr} {u : Value} {d : PyData} {as : List Addr} {Q : Value → Shared → Prop} (hl : s.heap.IsList l [u].toArray) (r : Reads s.heap u d as) (al : alike d d = true) (hn : d ≠ .none) (hu : A.units + 2 + d.depth < cLine)
    (h : Q (.ref (s.heap.objs.size + 1)) { s with heap := sortedAll s.heap [u] [u].toArray }) : wpAny (model prog w) A (call (.builtin "sorted") [.ref l]) Q E s := by
  have hz : [u].length ≤ sizeLine := by show 1 ≤ sizeLine; rw [sizeLine_eq]; decide
  have r' : Reads (sortingHeap (copyHeap s.heap [u]) (s.heap.objs.size + 1) [u]) u d as := Reads.keeps (fun _ _ => sorting_copy_old) r
  have S := sortsAt_one (prog := prog) (w := w) (A := A.in1.in1) (s := { s with heap := sortingHeap (copyHeap s.heap [u]) (s.heap.objs.size + 1) [u] }) r' al hn (by show A.units + 1 + 1 + d.depth < cLine; omega)
  refine sorted_vals hl S hz ?_
  have hal : AllAlike ([d].map id) := fun x hx y hy => by rw [List.map_id] at hx hy; rw [List.mem_singleton.mp hx, List.mem_singleton.mp hy]; exact al
  have er : EachIs (fun v b => ∃ as, Reads (sortingHeap (copyHeap s.heap [u]) (s.heap.objs.size + 1) [u]) v (id b) as) [u] [d] := .cons ⟨as, r'⟩ .nil
  have sv := sortVals_data (R := fun v (_ : PyData) => v = u) (enc := id) false (.cons rfl .nil : EachIs (fun v (_ : PyData) => v = u) [u] [d]) er hal
  have e1 : ([d] : List PyData).mergeSort (dataLe false id) = [d] := List.mergeSort_singleton d
  rw [e1] at sv
  have key : ∀ xs : List Value, EachIs (fun v (_ : PyData) => v = u) xs [d] → xs = [u] := fun xs hx => by
    cases hx with
    | cons h1 h2 => cases h2; rw [h1]
  rw [List.map_id] at sv
  rw [key _ sv]
  exact h
end
end DL
namespace DL
open PySem L2 PySem.Spec
/-- sorted, for lists of one too -/
def gSorted1 (d : PyData) : Option PyData := match d with
  | .list [x] => if (PySem.W.alike x x && (match x with | .none => false | _ => true) && decide (x.depth ≤ 60)) = true then some (.list [x]) else none
  | d => gSorted d
def rSort1 (K : PySem.W.Frag) : List V → Hp → VK → Prop := fun vs H Q => ∃ a x d G, vs = [.ref a] ∧ Same G H ∧ SqL K H a [x] ∧ Dq K G x d ∧ PySem.W.alike d d = true ∧ d ≠ .none ∧ d.depth ≤ 60 ∧ ∀ p, H p = none → Q (.ref p) (upd H p (.lst [x]))
theorem call_sort1 {X : Cx} {n : Nat} (hr : Room n X.A) : CallR X (.builtin "sorted") (rSort1 X.K) := by
  intro pins s σ H vs us Q I r hq
  obtain ⟨a, x, d, G, rfl, sg, hs, q, al, hn, hd, k⟩ := hq
  rw [Vals.ref1 r]
  obtain ⟨its, rv, hL, _⟩ := I.list hs
  cases rv with
  | @cons _ u _ ur ru rn =>
    cases rn
    obtain ⟨as, rd⟩ := (q.mono sg).reads I ru
    refine sorted_one hL.isList rd al hn (by have := hr.un; omega) ?_
    obtain ⟨ep, he'⟩ := PyProof.Rows.sortedAll_at s.heap [u] [u].toArray
    exact ⟨.ref _, upd H (s.heap.objs.size + 1) (.lst [x]), I.laid (t' := s.toks) (fun _ _ => PyProof.Rows.sortedAll_old) (Nat.le_succ _) ⟨by show 1 ≤ sizeLine; rw [sizeLine_eq]; decide, [u], ep, .cons ru .nil, by simpa using he'⟩, rfl, k _ (I.hok.fresh (Nat.le_succ _))⟩
section
variable {ι : Type} {Xf : ι → Cx} {P : Program} {w : World} {K : PySem.W.Frag} {mg : Str → Option Value} {base : Heap} {n : Nat} [F : Fam Xf P w K mg base n]
include F in
theorem clSorted1 [FG : FamG Xf] : Cl1 Xf K (.builtin "sorted") (.l .s) gSorted1 := by
  obtain ⟨r, hr, dr⟩ := (clSorted (Xf := Xf) (F := F)).ex
  refine ⟨fun vs H Q => r vs H Q ∨ rSort1 K vs H Q, fun i => by
    have c2 := call_sort1 (X := Xf i) (rmOf F FG i)
    rw [F.kk i] at c2
    exact CallR.or (hr i) c2, fun {m G H σ e A x dx d Q} st hx ee k => ?_⟩
  unfold gSorted1 at ee
  split at ee
  · rename_i y
    obtain ⟨h1, rfl⟩ := ite_some ee
    simp only [Bool.and_eq_true, decide_eq_true_eq] at h1
    obtain ⟨a, xs, rfl, r1, z1, q1⟩ := dq_lst hx
    match xs, q1 with
    | [v], q1 =>
      refine .inr ⟨a, v, y, G, rfl, st.sub, .inl (same_rd st.sub r1), q1.head, h1.1.1, fun z => ?_, h1.2, fun p hp => ?_⟩
      · have := h1.1.2
        subst z
        simp at this
      · exact ans_lst st (DqA.cons q1.head DqA.nil) (by show 1 ≤ sizeLine; rw [sizeLine_eq]; decide) k p hp
    | [], q1 => have := q1.1; simp at this
    | _ :: _ :: _, q1 => have := q1.1; simp at this
  · exact .inl (dr st hx ee k)
end
end DL

/-! list(d.values()) -/
namespace DL
open PySem L2 PySem.Spec PyProof.Rows
def rValsL : V → Hp → VK → Prop := fun x H Q => ∃ (d : Addr) (kvs : List (Key × V)), x = .ref d ∧ H d = some (.dK kvs) ∧ ∀ q, H q = none → Q (.ref q) (upd H q (.lst (kvs.map (·.2))))
def tListVals (te : TE) : TE := fun σ H Q => te σ H fun x H1 => rValsL x H1 Q
theorem vals_snd : ∀ {κ : Type} {kvs : List (κ × V)} {vs : List (κ × Value)}, KV kvs vs → Vals (kvs.map (·.2)) (vs.map (·.2))
  | _, _, _, .nil => .nil
  | _, _, _, .cons h t => .cons h.2 (vals_snd t)
section
variable {X : Cx} {e : Expr} {te : TE} {p apos cpos pos : Pos}
/-- list(e.values()) -/
theorem pe_listVals (calm : X.calm = true) (pe : PE X e te) (gl : Gl X "list") (mn : X.mg "list" = none) (bt : bootBuiltins "list" = some (.type "list")) (base_ : attributeBase e "values" X.env (eval e X.env) = eval e X.env := by rfl) (line_ : (apos.endLine == cpos.line) = true := by rfl)
    (st : starEach [.Call (.Attribute e "values" apos) [] [] cpos] X.env = (false, eval (.Call (.Attribute e "values" apos) [] [] cpos) X.env) :: starEach [] X.env := by rfl) :
    PE X (.Call (.Name "list" p) [.Call (.Attribute e "values" apos) [] [] cpos] [] pos) (tListVals te) := by
  refine ⟨fun pins s σ H Q I hq => ?_⟩
  refine wpAny_Call_Name_kw (ld_blt I gl mn bt ?_)
  refine PyProof.Rows.callWith_type1 ?_ st rfl
  rw [st]
  show wpAny _ _ (spliced ((false, eval (.Call (.Attribute e "values" apos) [] [] cpos) X.env) :: backTo pos (starEach [] X.env))) _ _ s
  refine Calls.spliced_cons ?_
  refine wpAny_Call_method (T := "dict") (id := "dict.values") base_ rfl line_ F.plainAttrs_dict F.slot_dict_values F.type_dict_values (thn (pe.run pins s σ H _ I hq) fun u s1 ⟨x, H1, I1, rx, d, kvs, ex, hd, q⟩ => ?_)
  subst ex
  obtain rfl : u = Value.ref d := rx
  obtain ⟨hz, hs0, vs, kv, hdo⟩ := I1.hok d _ hd
  obtain ⟨ep, hat⟩ := hdo.dictAt
  have lk : kvs.length = vs.length := Paired.length kv
  have I2 : Inv X pins σ H1 { s1 with heap := s1.heap.push { cls := .type "dict_values", data := .fields #[.ref d] } } := I1.kept (t' := s1.toks) fun b ob q => Heap.get?_push_of_some _ q
  refine ⟨hdo.typeIs, hdo.mapOf.noDict, ?_⟩
  show wpAny _ _ (callWith cpos (.builtin "dict.values") [.ref d] [] []) _ X.xe s1
  refine method_meetsIn F.slot_dict_values F.entry_dict_values rfl (PySem.evalArgs_none ⟨rfl, hdo.typeIs, F.args_dict_values_1 _, _, meets_dict_values (mixKind X.prog X.w) d hs0, ⟨vs, hdo⟩, ?_⟩)
  refine Calls.spliced_nil ?_
  refine PySem.W.kdl_call (PySem.W.kdl_values (knd := mixKind X.prog X.w) (kvs := vs) (ep := ep) (d := d)) (I1.ok.hd calm) ⟨⟨_, Heap.get?_push_size _ rfl, rfl, rfl⟩, hat.push _⟩ (by omega) fun h' tk acc c hk hD hacc => ?_
  have ev : acc.toList = vs.map (·.2) := PySem.W.kdl_vals_eq acc.toList (by rw [Array.length_toList]; exact hacc.1) fun j v ej => hacc.2 j v (by rw [← Array.getElem?_toList]; exact ej)
  refine ⟨.ref _, upd H1 (s1.heap.objs.size + 1) (.lst (kvs.map (·.2))), ?_, by rw [size_push']; rfl, q _ (I1.hok.fresh (Nat.le_succ _))⟩
  rw [size_push'] at hD
  exact I1.laid (t' := tk) (fun b ob z => hk b ob (Heap.get?_push_of_some _ z)) (Nat.le_succ _) (show ObjOk X.prog X.w _ _ _ (.lst (kvs.map (·.2))) from ⟨by rw [List.length_map]; exact hz, acc.toList, c, by rw [ev]; exact vals_snd kv, by rw [Array.toArray_toList]; exact hD⟩)
end
def gDVals (d : PyData) : Option PyData := match d with
  | .dict kvs => some (.list (kvs.map (·.2)))
  | _ => none
def eDVals (j : Nat) : Ef := fun e => (gDVals (e.getD j .none)).bind fun d => some (d, e)
section
variable {ι : Type} {Xf : ι → Cx} {P : Program} {w : World} {K : PySem.W.Frag} {mg : Str → Option Value} {base : Heap} {n : Nat} [F : Fam Xf P w K mg base n]
variable {m m1 m2 m3 : List Ty} {pos p p2 apos cpos xp : Pos} {a b c : Expr} {f g h : Ef}
omit F in
theorem DE.dvals {j : Nat} (hm : m[j]? = some .d) : DE K m (tListVals (tVar j)) (.l .s) (eDVals j) m := by
  intro G H σ e A d e' Q st hf k
  obtain ⟨x, hx, hf⟩ := Option.bind_eq_some_iff.mp hf
  cases hf
  obtain ⟨a, kvs, ds, h2, h1, ga, ha, hk, q, wr⟩ := slot_dict (Av := []) (Step.refl (A := A)) st.nd st hm
  rw [h1] at hx
  cases hx
  have ll : kvs.length ≤ sizeLine := by
    obtain ⟨dj, vj, Aj, A0, g1, g2, g3, _, _⟩ := ownA_take st.own hm
    cases g3 with
    | @d a' kvs' ds' ga' ha' hk' q' hz' =>
      rw [h2] at g2
      cases g2
      rw [ha] at ha'
      have := Option.some.inj ha'
      injection this with this
      have e1 := congrArg List.length this
      simp only [List.length_map] at e1
      omega
  have e1 : (ds.map kvD).map (·.2) = ds.map (·.2) := by rw [List.map_map]; rfl
  have e2 : (kvs.map kvV).map (·.2) = kvs.map (·.2) := by rw [List.map_map]; rfl
  refine ⟨.ref a, h2, a, _, rfl, ha, fun p hp => ?_⟩
  rw [e1] at k
  rw [e2]
  exact ans_lst st q (by rw [List.length_map]; exact ll) k p hp
include F in
theorem pd_dVals [FG : FamG Xf] (j : Nat) {x : Str} (mn : mg "list" = none) (hm : m[j]? = some .d := by rfl) (hN : ∀ i, (Xf i).N[j]? = some x := by intro _; rfl)
    (hv : ∀ i, Vis (Xf i).env.scope x := by first | (intro _; exact Or.inl rfl) | (intro _; exact Or.inr (Or.inl rfl)) | (intro _; exact Or.inr (Or.inr rfl))) (hd : (x == ("__debug__" : Str)) = false := by decide) (hcd : (x == ("__classdict__" : Str)) = false := by decide)
    (hg : ∀ i, Gl (Xf i) "list" := by intro _; rfl) (hb : ∀ i, attributeBase (.Name x xp) "values" (Xf i).env (eval (.Name x xp) (Xf i).env) = eval (.Name x xp) (Xf i).env := by intro _; rfl) (hl : (apos.endLine == cpos.line) = true := by rfl)
    (hst : ∀ i, starEach [.Call (.Attribute (.Name x xp) "values" apos) [] [] cpos] (Xf i).env = (false, eval (.Call (.Attribute (.Name x xp) "values" apos) [] [] cpos) (Xf i).env) :: starEach [] (Xf i).env := by intro _; rfl) :
    PD Xf K m (.Call (.Name "list" p) [.Call (.Attribute (.Name x xp) "values" apos) [] [] cpos] [] pos) (.l .s) (eDVals j) m :=
  ⟨_, fun i => pe_listVals (FG.calm i) (pe_var (pos := xp) (hN i) (hv i) hd hcd) (hg i) (by rw [F.mg_ i]; exact mn) rfl (hb i) hl (hst i), DE.dvals hm⟩
end
end DL

/-! calls that may raise within a body that may raise; loops there; try around any such body -/
namespace DL
open PySem L2 PySem.Spec
/-- every class of tw stands in tb, with the same fields -/
def SubT (tw tb : CT) : Prop := ∀ p ∈ tw, tb.lookup p.1 = some p.2
theorem lookup_mem {c : Str} {l : List Str} : ∀ {tw : CT}, tw.lookup c = some l → (c, l) ∈ tw
  | [], h => by cases h
  | (a, k) :: tw, h => by
    rw [List.lookup_cons] at h
    by_cases e : c = a
    · subst e
      simp at h
      subst h
      exact List.mem_cons_self ..
    · rw [show (c == a) = false from by simpa using e] at h
      exact List.mem_cons_of_mem _ (lookup_mem h)
theorem SubT.look {tw tb : CT} (h : SubT tw tb) {c : Str} {l : List Str} (e : tw.lookup c = some l) : tb.lookup c = some l := h _ (lookup_mem e)
def sAsgE (tw : CT) (j : Nat) (f : Ef) : Sf := fun e => (f e).bind fun p => (gIsOk tw p.1).bind fun w => (asB w).bind fun b => if b = true then (gUn p.1).bind fun d => some (.nx, p.2.set j d) else some (.rt p.1, p.2)
def sDropE (tw : CT) (f : Ef) : Sf := fun e => (f e).bind fun p => (gIsOk tw p.1).bind fun w => (asB w).bind fun b => if b = true then some (.nx, p.2) else some (.rt p.1, p.2)
def sRetE (tw : CT) (f : Ef) : Sf := fun e => (f e).bind fun p => (gIsOk tw p.1).bind fun _ => some (.rt p.1, p.2)
def tryR (tb : CT) (j : Nat) (fs : Sf) : Out × En → Option (Out × En)
  | (.rt v, e) => (gIsOk tb v).bind fun w => (asB w).bind fun b => if b = true then (gUn v).bind fun d => some (.rt d, e) else fs (e.set j v)
  | (.nx, e) => some (.nx, e)
  | (.bk, e) => some (.bk, e)
  | (.ct, e) => some (.ct, e)
def tryR0 (tb : CT) (fs : Sf) : Out × En → Option (Out × En)
  | (.rt v, e) => (gIsOk tb v).bind fun w => (asB w).bind fun b => if b = true then (gUn v).bind fun d => some (.rt d, e) else fs e
  | (.nx, e) => some (.nx, e)
  | (.bk, e) => some (.bk, e)
  | (.ct, e) => some (.ct, e)
def sTryB (tb : CT) (j : Nat) (fb fs : Sf) : Sf := fun e => (fb e).bind (tryR tb j fs)
def sTryC (tb : CT) (fb fs : Sf) : Sf := fun e => (fb e).bind (tryR0 tb fs)
theorem dec_in {tw tb : CT} (s : SubT tw tb) {c : Str} {vs : List PyData} {l : List Str} (h : tw.lookup c = some l) (hl : l.length = vs.length) : decR tb (.tuple (.str c :: vs)) = some (.ex c (l.zip vs)) := decR_ex (s.look h) hl
section
variable {tw tG tb : CT} {j : Nat} {Fn : DFn} {fr : Lf}
theorem call_dec {e e9 : En} {v : PyData} {r : Res} (h : eCall Fn fr e = some (v, e9)) (hr : decR tG v = some r) : xCall (decF tG Fn) fr e = some (r, e9) := by
  unfold eCall at h
  obtain ⟨⟨ds, e2⟩, k1, k2⟩ := Option.bind_eq_some_iff.mp h
  obtain ⟨⟨v1, fs1⟩, k3, k4⟩ := Option.bind_eq_some_iff.mp k2
  injection k4 with k4
  injection k4 with k4 k5
  subst k4 k5
  unfold xCall decF
  rw [k1, Option.bind_some]
  show (((Fn ds).bind fun q => decR tG q.1).bind fun q => some (q, e2)) = _
  rw [k3, Option.bind_some]
  show ((decR tG v1).bind fun q => some (q, e2)) = _
  rw [hr]; rfl
theorem rel_asg (sG : SubT tw tG) (sb : SubT tw tb) (e : En) (r : OutX × En) (h : decX tb (sAsgE tw j (eCall Fn fr)) e = some r) : xAsgX j (xCall (decF tG Fn) fr) e = some r := by
  obtain ⟨⟨o, e1⟩, h1, h2⟩ := Option.bind_eq_some_iff.mp h
  obtain ⟨⟨v, ex⟩, h3, h4⟩ := Option.bind_eq_some_iff.mp h1
  obtain ⟨w, h5, h6⟩ := Option.bind_eq_some_iff.mp h4
  obtain ⟨b, h7, h8⟩ := Option.bind_eq_some_iff.mp h6
  rcases isOk_of h5 with ⟨d, hv, rfl⟩ | ⟨c, vs, l, hv, hl1, hl2, rfl⟩
  · have hv : v = .list [d] := hv
    subst hv
    cases h7
    rw [if_pos rfl] at h8
    cases h8
    cases h2
    unfold xAsgX
    rw [call_dec (r := .ok d) h3 rfl]; rfl
  · have hv : v = .tuple (.str c :: vs) := hv
    subst hv
    cases h7
    rw [if_neg (by simp)] at h8
    cases h8
    obtain ⟨r1, h9, h10⟩ := Option.bind_eq_some_iff.mp h2
    rw [dec_in sb hl1 hl2] at h9
    cases h9
    cases h10
    unfold xAsgX
    rw [call_dec h3 (dec_in sG hl1 hl2)]; rfl
theorem rel_drop (sG : SubT tw tG) (sb : SubT tw tb) (e : En) (r : OutX × En) (h : decX tb (sDropE tw (eCall Fn fr)) e = some r) : xDropX (xCall (decF tG Fn) fr) e = some r := by
  obtain ⟨⟨o, e1⟩, h1, h2⟩ := Option.bind_eq_some_iff.mp h
  obtain ⟨⟨v, ex⟩, h3, h4⟩ := Option.bind_eq_some_iff.mp h1
  obtain ⟨w, h5, h6⟩ := Option.bind_eq_some_iff.mp h4
  obtain ⟨b, h7, h8⟩ := Option.bind_eq_some_iff.mp h6
  rcases isOk_of h5 with ⟨d, hv, rfl⟩ | ⟨c, vs, l, hv, hl1, hl2, rfl⟩
  · have hv : v = .list [d] := hv
    subst hv
    cases h7
    rw [if_pos rfl] at h8
    cases h8
    cases h2
    unfold xDropX
    rw [call_dec (r := .ok d) h3 rfl]; rfl
  · have hv : v = .tuple (.str c :: vs) := hv
    subst hv
    cases h7
    rw [if_neg (by simp)] at h8
    cases h8
    obtain ⟨r1, h9, h10⟩ := Option.bind_eq_some_iff.mp h2
    rw [dec_in sb hl1 hl2] at h9
    cases h9
    cases h10
    unfold xDropX
    rw [call_dec h3 (dec_in sG hl1 hl2)]; rfl
theorem rel_ret (sG : SubT tw tG) (sb : SubT tw tb) (e : En) (r : OutX × En) (h : decX tb (sRetE tw (eCall Fn fr)) e = some r) : xRetX (xCall (decF tG Fn) fr) e = some r := by
  obtain ⟨⟨o, e1⟩, h1, h2⟩ := Option.bind_eq_some_iff.mp h
  obtain ⟨⟨v, ex⟩, h3, h4⟩ := Option.bind_eq_some_iff.mp h1
  obtain ⟨w, h5, h6⟩ := Option.bind_eq_some_iff.mp h4
  cases h6
  obtain ⟨r1, h9, h10⟩ := Option.bind_eq_some_iff.mp h2
  rcases isOk_of h5 with ⟨d, hv, rfl⟩ | ⟨c, vs, l, hv, hl1, hl2, rfl⟩
  · have hv : v = .list [d] := hv
    subst hv
    cases h9
    cases h10
    unfold xRetX
    rw [call_dec (r := .ok d) h3 rfl]; rfl
  · have hv : v = .tuple (.str c :: vs) := hv
    subst hv
    rw [dec_in sb hl1 hl2] at h9
    cases h9
    cases h10
    unfold xRetX
    rw [call_dec h3 (dec_in sG hl1 hl2)]; rfl
end
section
variable {K : PySem.W.Frag} {mg : Str → Option Value} {M : Mk} {G H G1 H1 : Hp} {m m1 m2 mn mx ml : List Ty} {W : WX} {σ σ1 : St} {e : En} {A A1 : List Addr} {D : Ends} {e' : En} {t u : TS} {f : Sf} {gf : Gf} {lf : Lf} {tb : CT}
theorem DSX.lex {fx : SfX} (h : DSX K mg M m1 W m t fx mn) (l : LeM m1 mx) : DSX K mg M mx W m t fx mn := by
  intro G H σ e A o e' D st hf k
  refine h st hf ?_
  match o, k with
  | .o x, k => exact k
  | .ex c fs, k =>
    intro G' H' σ' A' cls dx s' st' p' ex
    obtain ⟨G2, A2, s2, st2⟩ := stt_le l st'
    exact k G2 H' σ' A2 cls dx (s'.seq0 s2) st2 p' (ex.mono s2.sg)
theorem DSX.for {wk : Bool} {wi : L2.TI} {tg : TG} {sl : List Nat} (hi : DI K wk m wi lf m1) (l1 : LeM m1 ml) (hg : DG K wk ml tg sl gf m2) (hb : DSX K mg { M with b := mn, c := ml } mx W m2 t (decX tb f) ml) (l2 : LeM ml mn) (hp : ∀ j ∈ M.po, j ∉ sl) :
    DSX K mg M mx W m (tFor wi tg t) (decX tb (sFor lf gf f)) mn := by
  intro G H σ e A oX e' D st hf0 k
  obtain ⟨⟨o, e9⟩, hf, hdec⟩ := Option.bind_eq_some_iff.mp hf0
  obtain ⟨⟨ds, e1⟩, hf1, hf⟩ := Option.bind_eq_some_iff.mp hf
  refine hi st hf1 fun G1 H1 A1 J s1 st1 wk hz => ?_
  obtain ⟨G2, A2, s2, st2⟩ := stt_le l1 st1
  let T := fun (i : Nat) (σc : St) (Hc : Hp) => ∃ Gc ec A', Step A G H A' Gc Hc ∧ Same G1 Gc ∧ Stt K ml Gc Hc σc ec A' ∧ Pin M.po σ σc ∧ forL gf f (ds.drop i) ec = some (o, e9)
  refine ⟨fun i mm σc Hc => mm = ds.length - i ∧ i ≤ ds.length ∧ T i σc Hc, ⟨ds.length, by omega, Nat.zero_le _, G2, e1, A2, s1.seq0 s2, s2.sg, st2, Pin.refl, hf⟩, ?_⟩
  rintro i mm σc Hc ⟨rfl, hle, Gc, ec, A', sc, sg, stc, pc, hl⟩
  have sub1 : Same G1 Hc := sg.trans stc.sub
  by_cases hi : i < ds.length
  · refine .inr ⟨wk.goes i Hc hi sub1, fun σn Hn => i < ds.length ∧ T (i + 1) σn Hn, fun σn Hn hn => ⟨ds.length - (i + 1), by omega, rfl, by omega, hn.2⟩, fun x Hy hy => ?_⟩
    obtain ⟨Gy, sy, sty, sgy, qy⟩ := wk.yields hi sg stc hy
    have hd : ds.drop i = ds[i] :: ds.drop (i + 1) := List.drop_eq_getElem_cons hi
    rw [hd] at hl
    unfold forL at hl
    obtain ⟨e2, hl1, hl⟩ := Option.bind_eq_some_iff.mp hl
    obtain ⟨⟨o3, e3⟩, hl2, hl⟩ := Option.bind_eq_some_iff.mp hl
    refine hg sty (qy _ (List.getElem?_eq_getElem hi)) hl1 fun G3 H3 σ3 A3 s3 st3 k3 l3 => ?_
    have p3 : Pin M.po σ σ3 := pc.trans fun j hj => k3 j (hp j hj)
    have s03 := (sc.seq0 sy).seq0 s3
    cases o3 with
    | nx =>
      refine hb (o := .o .nx) (e' := e3) st3 (by unfold decX; rw [hl2]; rfl) ?_
      exact fun G4 H4 σ4 A4 s4 st4 p4 => ⟨hi, G4, e3, A4, s03.seq0 s4, ((sg.trans sgy).trans s3.sg).trans s4.sg, st4, p3.trans p4, hl⟩
    | ct =>
      refine hb (o := .o .ct) (e' := e3) st3 (by unfold decX; rw [hl2]; rfl) ?_
      exact fun G4 H4 σ4 A4 s4 st4 p4 => ⟨hi, G4, e3, A4, s03.seq0 s4, ((sg.trans sgy).trans s3.sg).trans s4.sg, st4, p3.trans p4, hl⟩
    | bk =>
      cases hl
      cases hdec
      refine hb (o := .o .bk) st3 (by unfold decX; rw [hl2]; rfl) ?_
      exact fun G4 H4 σ4 A4 s4 st4 p4 => k G4 H4 σ4 A4 (s03.seq0 s4) st4 (p3.trans p4)
    | rt r =>
      cases hl
      obtain ⟨r1, h9, h10⟩ := Option.bind_eq_some_iff.mp hdec
      cases r1 with
      | ok d =>
        cases h10
        refine hb (o := .o (.rt d)) st3 (by unfold decX; rw [hl2]; show ((decR tb r).bind _ : Option (OutX × En)) = _; rw [h9]; rfl) ?_
        exact fun G4 H4 σ4 v Av A4 s4 st4 o4 nd4 p4 => k G4 H4 σ4 v Av A4 (s03.seq0 s4) st4 o4 nd4 (p3.trans p4)
      | ex c fs =>
        cases h10
        refine hb (o := .ex c fs) st3 (by unfold decX; rw [hl2]; show ((decR tb r).bind _ : Option (OutX × En)) = _; rw [h9]; rfl) ?_
        exact fun G4 H4 σ4 A4 cls dx s4 st4 p4 ex => k G4 H4 σ4 A4 cls dx (s03.seq0 s4) st4 (p3.trans p4) ex
  · have hie : i = ds.length := by omega
    subst hie
    rw [List.drop_length] at hl
    cases hl
    cases hdec
    obtain ⟨G4, A4, s4, st4⟩ := stt_le l2 stc
    exact .inl ⟨wk.stops Hc sub1, k G4 Hc σc A4 (sc.seq0 s4) st4 pc⟩
theorem DSX.post {js jr : List Nat} (h : DSX K mg M mx W m t (decX tb f) mn) (o1 : fgOk js mn = true) (o2 : fgOk js M.b = true) (o3 : fgOk js M.c = true) (o4 : fgOk jr M.r = true) (o5 : fgOk jr mx = true) : DSX K mg M mx W m t (decX tb (sPost js jr f)) mn := by
  intro G H σ e A o e' D st hf k
  obtain ⟨⟨oo, ee⟩, hf1, hf⟩ := Option.bind_eq_some_iff.mp hf
  obtain ⟨⟨o0, e0⟩, hf2, hf3⟩ := Option.bind_eq_some_iff.mp hf1
  simp only [Option.some.injEq, Prod.mk.injEq] at hf3
  obtain ⟨rfl, rfl⟩ := hf3
  cases o0 with
  | nx =>
    cases hf
    refine h (o := .o .nx) (e' := e0) st (by unfold decX; rw [hf2]; rfl) ?_
    exact fun G' H' σ' A' s' st' p' => k G' H' σ' A' s' (stt_fg o1 st') p'
  | bk =>
    cases hf
    refine h (o := .o .bk) (e' := e0) st (by unfold decX; rw [hf2]; rfl) ?_
    exact fun G' H' σ' A' s' st' p' => k G' H' σ' A' s' (stt_fg o2 st') p'
  | ct =>
    cases hf
    refine h (o := .o .ct) (e' := e0) st (by unfold decX; rw [hf2]; rfl) ?_
    exact fun G' H' σ' A' s' st' p' => k G' H' σ' A' s' (stt_fg o3 st') p'
  | rt r =>
    obtain ⟨r1, h9, h10⟩ := Option.bind_eq_some_iff.mp hf
    cases r1 with
    | ok d =>
      cases h10
      refine h (o := .o (.rt d)) (e' := e0) st (by unfold decX; rw [hf2]; show ((decR tb r).bind _ : Option (OutX × En)) = _; rw [h9]; rfl) ?_
      exact fun G' H' σ' v Av A' s' st' ov nd p' => k G' H' σ' v Av A' s' (stt_fg o4 st') ov nd p'
    | ex c fs =>
      cases h10
      refine h (o := .ex c fs) (e' := e0) st (by unfold decX; rw [hf2]; show ((decR tb r).bind _ : Option (OutX × En)) = _; rw [h9]; rfl) ?_
      exact fun G' H' σ' A' cls dx s' st' p' ex => k G' H' σ' A' cls dx s' (stt_fg o5 st') p' ex
end
theorem nrt_set {gq gi : Gq} {pt : En → PyData → En} {f : Ef} : NoRt (sSet gq pt gi f) := fun e d e' h => by
  rw [rsSet] at h
  obtain ⟨p, _, h⟩ := Option.bind_eq_some_iff.mp h
  obtain ⟨q, _, h⟩ := Option.bind_eq_some_iff.mp h
  obtain ⟨i, _, h⟩ := Option.bind_eq_some_iff.mp h
  obtain ⟨l, _, h⟩ := Option.bind_eq_some_iff.mp h
  cases h
theorem nrt_aug {j : Nat} {gg : PyData → PyData → Option PyData} {f : Ef} : NoRt (sAug j gg f) := fun e d e' h => by
  rw [rsAug] at h
  obtain ⟨p, _, h⟩ := Option.bind_eq_some_iff.mp h
  obtain ⟨q, _, h⟩ := Option.bind_eq_some_iff.mp h
  cases h
theorem nrt_dput {j : Nat} {f g : Ef} : NoRt (sDPutD j g f) := fun e d e' h => by
  rw [rsDPutD] at h
  obtain ⟨p, _, h⟩ := Option.bind_eq_some_iff.mp h
  obtain ⟨q, _, h⟩ := Option.bind_eq_some_iff.mp h
  obtain ⟨i, _, h⟩ := Option.bind_eq_some_iff.mp h
  cases h
theorem nrt_par3 {i j l : Nat} {f : Lf} : NoRt (sPar3 i j l f) := fun e d e' h => by
  obtain ⟨⟨xs, e1⟩, _, h⟩ := Option.bind_eq_some_iff.mp h
  match xs, h with
  | [_, _, _], h => cases h
  | [], h => cases h
  | [_], h => cases h
  | [_, _], h => cases h
  | _ :: _ :: _ :: _ :: _, h => cases h
section
variable {ι : Type} {Xf : ι → Cx} {W : WX} {P : Program} {w : World} {K : PySem.W.Frag} {mg : Str → Option Value} {base : Heap} {n : Nat} [F : Fam Xf P w K mg base n]
variable {M : Mk} {m m1 m2 mn mx ml : List Ty} {pos p p2 p3 cp spos np np2 pos' : Pos} {c v a tg iter : Expr} {es : List Expr} {st : Stmt} {rest body orelse suite : List Stmt} {b₀ : Stmt} {f g fb fs : Sf} {gf : Gf} {lf : Lf} {fx gx : SfX} {bf : Bf} {ef : Ef} {fr : Lf} {tys : List Ty} {L : List (Option Nat)} {tb tw tG : CT} {rty ty : Ty} {Fn : DFn} {sl : List Nat}
theorem sx_lex (h : PSX Xf W K mg M m1 m st fx mn) (l : LeM m1 mx) : PSX Xf W K mg M mx m st fx mn := by
  obtain ⟨t, p, d⟩ := h.ex
  exact ⟨t, p, d.lex l⟩
include F in
/-- y = f(..), where f may raise -/
theorem ex_asgE [FG : FamG Xf] [FT : FamT Xf W] {k : Nat} {x y : Str} (j : Nat) (c : CalX P w K mg base k x tys rty (decF tG Fn)) (sG : SubT tw tG) (sb : SubT tw tb) (ha : PAL Xf K m (a :: es) tys L fr m1) (lx : LeM m1 mx)
    (hst : ∀ t ∈ tys, stb t = true := by decide) (hk : k ≤ n := by decide) (hg : ∀ i, Gl (Xf i) x := by intro _; rfl)
    (hdb : (x == ("__debug__" : Str)) = false := by decide) (he : ∀ i, starEach (a :: es) (Xf i).env = (false, eval a (Xf i).env) :: starEach es (Xf i).env := by intro _; rfl) (hpl : ∀ i, (backTo cp (starEach es (Xf i).env)).any (·.1) = false := by intro _; rfl)
    (hj : j < m1.length := by decide) (hp : j ∉ M.po := by decide) (hi : ∀ i, (Xf i).N[j]? = some y := by intro _; rfl) (hx : ∀ i, Loc (Xf i).env.scope y := by first | (intro _; exact Or.inl rfl) | (intro _; exact Or.inr rfl))
    (hs : ∀ i, swapsWith (.Call (.Name x p3) (a :: es) [] cp) (some (.Name y np)) p2.line (Xf i).env = pure false := by intro _; rfl) (hf : ∀ i, (Xf i).fn y = true ∨ (Xf i).env.scope.names.lookup y = some .local := by first | (intro _; exact Or.inl rfl) | (intro _; exact Or.inr rfl)) :
    PSX Xf W K mg M mx m (.Assign [.Name y np] (.Call (.Name x p3) (a :: es) [] cp) p2) (decX tb (sAsgE tw j (eCall Fn fr))) (m1.set j rty) :=
  sx_mono (sx_lex (sx_asg j (px_call c ha hst hk hg hdb he hpl) hj hp hi hx hs hf) lx) (rel_asg sG sb)
include F in
/-- f(..), where f may raise -/
theorem ex_dropE [FG : FamG Xf] [FT : FamT Xf W] {k : Nat} {x : Str} (c : CalX P w K mg base k x tys rty (decF tG Fn)) (sG : SubT tw tG) (sb : SubT tw tb) (ha : PAL Xf K m (a :: es) tys L fr m1) (lx : LeM m1 mx)
    (hst : ∀ t ∈ tys, stb t = true := by decide) (hk : k ≤ n := by decide) (hg : ∀ i, Gl (Xf i) x := by intro _; rfl)
    (hdb : (x == ("__debug__" : Str)) = false := by decide) (he : ∀ i, starEach (a :: es) (Xf i).env = (false, eval a (Xf i).env) :: starEach es (Xf i).env := by intro _; rfl) (hpl : ∀ i, (backTo cp (starEach es (Xf i).env)).any (·.1) = false := by intro _; rfl)
    (hs : ∀ i, swapsWith (.Call (.Name x p3) (a :: es) [] cp) none p2.line (Xf i).env = pure false := by intro _; rfl) :
    PSX Xf W K mg M mx m (.Expr (.Call (.Name x p3) (a :: es) [] cp) p2) (decX tb (sDropE tw (eCall Fn fr))) m1 :=
  sx_mono (sx_lex (sx_drop (px_call c ha hst hk hg hdb he hpl) hs) lx) (rel_drop sG sb)
include F in
/-- return f(..), where f may raise -/
theorem ex_retE [FG : FamG Xf] [FT : FamT Xf W] {k : Nat} {x : Str} (c : CalX P w K mg base k x tys M.ty (decF tG Fn)) (sG : SubT tw tG) (sb : SubT tw tb) (ha : PAL Xf K m (a :: es) tys L fr m1) (l : LeM m1 M.r) (lx : LeM m1 mx)
    (hst : ∀ t ∈ tys, stb t = true := by decide) (hk : k ≤ n := by decide) (hg : ∀ i, Gl (Xf i) x := by intro _; rfl)
    (hdb : (x == ("__debug__" : Str)) = false := by decide) (he : ∀ i, starEach (a :: es) (Xf i).env = (false, eval a (Xf i).env) :: starEach es (Xf i).env := by intro _; rfl) (hpl : ∀ i, (backTo cp (starEach es (Xf i).env)).any (·.1) = false := by intro _; rfl) :
    PSX Xf W K mg M mx m (.Return (some (.Call (.Name x p3) (a :: es) [] cp)) p2) (decX tb (sRetE tw (eCall Fn fr))) mn :=
  sx_mono (sx_ret (px_call c ha hst hk hg hdb he hpl) l lx) (rel_ret sG sb)
include F in
theorem ex_for [FG : FamG Xf] {wk : Bool} [FN : FamN Xf] (ml : List Ty) (hi : PIt Xf K wk m tg iter lf m1) (l1 : LeM m1 ml) (hg : PGD Xf K wk ml tg sl gf m2) (hb : PSXs Xf W K mg { M with b := mn, c := ml } mx m2 body (decX tb f) ml) (l2 : LeM ml mn) (hp : ∀ j ∈ M.po, j ∉ sl := by decide)
    (hs : ∀ i x, foldedSetIterable iter (Xf i).env x = pure x := by intro _ _; rfl) : PSX Xf W K mg M mx m (.For tg iter body [] pos) (decX tb (sFor lf gf f)) mn := by
  obtain ⟨wi, pi, di⟩ := hi.ex
  obtain ⟨g, pg, dg⟩ := hg.ex
  obtain ⟨t, p, d⟩ := hb.ex
  exact ⟨_, fun i => ps_for (FN.ps i) (FG.calm i) (pi i) (pg i) (p i) (hs i), DSX.for di l1 dg d l2 hp⟩
theorem exs_post (js jr : List Nat) (h : PSXs Xf W K mg M mx m body (decX tb f) mn) (o1 : fgOk js mn = true := by decide) (o2 : fgOk js M.b = true := by decide) (o3 : fgOk js M.c = true := by decide) (o4 : fgOk jr M.r = true := by decide) (o5 : fgOk jr mx = true := by decide) : PSXs Xf W K mg M mx m body (decX tb (sPost js jr f)) mn := by
  obtain ⟨t, p, d⟩ := h.ex
  exact ⟨t, p, d.post o1 o2 o3 o4 o5⟩
end
section
variable {ι : Type} {Xf : ι → Cx} {P : Program} {w : World} {K : PySem.W.Frag} {mg : Str → Option Value} {base : Heap} {n : Nat} [F : Fam Xf P w K mg base n]
variable {M : Mk} {m mn mx : List Ty} {pos pos' np2 : Pos} {x nm : Str} {cx : Value} {body suite : List Stmt} {b₀ : Stmt} {fb fs : Sf}
include F in
/-- try: any body that may raise / except X as nm: .. -/
theorem ds_tryB (tb : CT) (j : Nat) (hm : mg x = some cx) (hc : Cat K mg tb cx) (hb : ∀ W : WX, PSXs (tryF Xf W) W K mg M mx m body (decX tb fb) mn) (hsu : Suit Xf K mg M tb mx j (b₀ :: suite) fs mn)
    (hj : j < mx.length := by decide) (hp : j ∉ M.po := by decide) (un : uAt mn j = true := by rfl) (ub : uAt M.b j = true := by rfl) (uc : uAt M.c j = true := by rfl)
    (hN : ∀ i, (Xf i).N[j]? = some nm := by intro _; rfl) (hln : ∀ i, (Xf i).env.kindOf nm = some .local := by intro _; rfl)
    (hs : ∀ i, (Xf i).stack = (Xf i).env :: (Xf i).outer := by intro _; rfl) (hf : ∀ i, (Xf i).env.frame = some (Xf i).env.locals := by intro _; rfl) (hg : ∀ i, Gl (Xf i) x := by intro _; rfl) (hdb : (x == ("__debug__" : Str)) = false := by decide) :
    PSd Xf K M m (.Try body [.ExceptHandler (some (.Name x np2)) (some nm) (b₀ :: suite) pos'] [] [] pos) (sTryB tb j fb fs) mn :=
  ds_imp (ds_tryA tb j hm hc hb hsu hj hp un ub uc hN hln hs hf hg hdb) fun e r h => by
    obtain ⟨⟨o, e1⟩, h1, h2⟩ := Option.bind_eq_some_iff.mp h
    unfold sTryA decX
    rw [h1]
    cases o with
    | nx => exact h2
    | bk => exact h2
    | ct => exact h2
    | rt v =>
      obtain ⟨w, h5, h6⟩ := Option.bind_eq_some_iff.mp h2
      obtain ⟨b, h7, h8⟩ := Option.bind_eq_some_iff.mp h6
      rcases isOk_of h5 with ⟨d, hv, rfl⟩ | ⟨c, vs, l, hv, hl1, hl2, rfl⟩
      · subst hv
        cases h7
        rw [if_pos rfl] at h8
        exact h8
      · subst hv
        cases h7
        rw [if_neg (by simp)] at h8
        show (((decR tb (.tuple (.str c :: vs))).bind _ : Option (OutX × En))).bind _ = _
        rw [decR_ex hl1 hl2]
        show (if tb.lookup c = some ((l.zip vs).map (·.1)) then fs (e1.set j (.tuple (.str c :: (l.zip vs).map (·.2)))) else none) = _
        rw [zip_fst hl2, zip_snd hl2, if_pos hl1]
        exact h8
include F in
/-- try: any body that may raise / except X: .. -/
theorem ds_tryC (tb : CT) (hm : mg x = some cx) (hc : Cat K mg tb cx) (hb : ∀ W : WX, PSXs (tryF Xf W) W K mg M mx m body (decX tb fb) mn) (hsu : ∀ (a : Addr) (cls : Value) (d : Option Addr), PSsd (suF Xf a cls d) K M mx (b₀ :: suite) fs mn)
    (hs : ∀ i, (Xf i).stack = (Xf i).env :: (Xf i).outer := by intro _; rfl) (hf : ∀ i, (Xf i).env.frame = some (Xf i).env.locals := by intro _; rfl) (hg : ∀ i, Gl (Xf i) x := by intro _; rfl) (hdb : (x == ("__debug__" : Str)) = false := by decide) :
    PSd Xf K M m (.Try body [.ExceptHandler (some (.Name x np2)) none (b₀ :: suite) pos'] [] [] pos) (sTryC tb fb fs) mn :=
  ds_imp (ds_tryO tb hm hc hb hsu hs hf hg hdb) fun e r h => by
    obtain ⟨⟨o, e1⟩, h1, h2⟩ := Option.bind_eq_some_iff.mp h
    unfold sTryO decX
    rw [h1]
    cases o with
    | nx => exact h2
    | bk => exact h2
    | ct => exact h2
    | rt v =>
      obtain ⟨w, h5, h6⟩ := Option.bind_eq_some_iff.mp h2
      obtain ⟨b, h7, h8⟩ := Option.bind_eq_some_iff.mp h6
      rcases isOk_of h5 with ⟨d, hv, rfl⟩ | ⟨c, vs, l, hv, hl1, hl2, rfl⟩
      · subst hv
        cases h7
        rw [if_pos rfl] at h8
        exact h8
      · subst hv
        cases h7
        rw [if_neg (by simp)] at h8
        show (((decR tb (.tuple (.str c :: vs))).bind _ : Option (OutX × En))).bind _ = _
        rw [decR_ex hl1 hl2]
        show (if tb.lookup c = some ((l.zip vs).map (·.1)) then fs e1 else none) = _
        rw [zip_fst hl2, if_pos hl1]
        exact h8
end
end DL
namespace DL
theorem nrt_brk : NoRt sBrk := fun e d e' h => by cases h
theorem nrt_cnt : NoRt sCnt := fun e d e' h => by cases h
end DL

/-! [y for x in xs for y in x] -/
namespace DL
open PySem L2 PySem.Spec
def flatD : List PyData → Option (List PyData)
  | [] => some []
  | d :: ds => (seqD d).bind fun xs => (flatD ds).bind fun ys => some (xs ++ ys)
def gFlat (d : PyData) : Option PyData := (seqD d).bind fun ds => (flatD ds).bind fun ys => if ys.length ≤ sizeLine then some (.list ys) else none
theorem flat_snoc : ∀ {ds : List PyData} {d : PyData} {ys xs : List PyData}, flatD ds = some ys → seqD d = some xs → flatD (ds ++ [d]) = some (ys ++ xs)
  | [], d, ys, xs, h, h2 => by
    cases h
    show (seqD d).bind _ = _
    rw [h2]
    show some (xs ++ []) = some ([] ++ xs)
    rw [List.append_nil, List.nil_append]
  | c :: ds, d, ys, xs, h, h2 => by
    obtain ⟨cs, h3, h4⟩ := Option.bind_eq_some_iff.mp h
    obtain ⟨zs, h5, h6⟩ := Option.bind_eq_some_iff.mp h4
    cases h6
    have := flat_snoc h5 h2
    show (seqD c).bind _ = _
    rw [h3, Option.bind_some]
    show (flatD (ds ++ [d])).bind _ = _
    rw [this, Option.bind_some, List.append_assoc]
theorem flat_some : ∀ {ds ys : List PyData} {i : Nat}, flatD ds = some ys → i < ds.length → ∃ xs, seqD (ds[i]?.getD .none) = some xs
  | d :: ds, ys, 0, h, _ => by
    obtain ⟨cs, h3, _⟩ := Option.bind_eq_some_iff.mp h
    exact ⟨cs, h3⟩
  | d :: ds, ys, i + 1, h, hi => by
    obtain ⟨cs, h3, h4⟩ := Option.bind_eq_some_iff.mp h
    obtain ⟨zs, h5, _⟩ := Option.bind_eq_some_iff.mp h4
    have := flat_some h5 (show i < ds.length by simpa using hi)
    simpa using this
theorem flat_cut : ∀ {ds ys : List PyData} (i : Nat), flatD ds = some ys → ∃ zs, flatD (ds.take i) = some zs ∧ zs.length ≤ ys.length
  | ds, ys, 0, h => ⟨[], rfl, Nat.zero_le _⟩
  | [], ys, i + 1, h => ⟨ys, h, Nat.le_refl _⟩
  | d :: ds, ys, i + 1, h => by
    obtain ⟨cs, h3, h4⟩ := Option.bind_eq_some_iff.mp h
    obtain ⟨zs, h5, h6⟩ := Option.bind_eq_some_iff.mp h4
    cases h6
    obtain ⟨ws, h7, h8⟩ := flat_cut i h5
    refine ⟨cs ++ ws, ?_, by simp only [List.length_append]; omega⟩
    show (seqD d).bind _ = _
    rw [h3, Option.bind_some]
    show (flatD (ds.take i)).bind _ = _
    rw [h7]; rfl
/-- the environments agree off vs -/
def Agr (vs : List Nat) (a b : En) : Prop := a.length = b.length ∧ ∀ k, k ∉ vs → a[k]? = b[k]?
theorem Agr.set {vs : List Nat} {a b : En} {v : Nat} {d : PyData} (h : Agr vs a b) (hv : v ∈ vs) : Agr vs (a.set v d) b :=
  ⟨by rw [List.length_set]; exact h.1, fun k hk => by rw [List.getElem?_set_ne fun z => hk (by rw [← z]; exact hv)]; exact h.2 k hk⟩
theorem Agr.rest {vs : List Nat} {a b : En} (h : Agr vs a b) : restE b a vs = b := by
  induction vs generalizing a with
  | nil => exact List.ext_getElem? fun k => h.2 k (by simp)
  | cons v vs ih =>
    unfold restE
    refine ih ⟨by rw [List.length_set]; exact h.1, fun k hk => ?_⟩
    by_cases c : v = k
    · subst c
      rw [List.getElem?_set]
      by_cases l : v < a.length
      · rw [if_pos rfl, if_pos l, List.getD_eq_getElem?_getD, List.getElem?_eq_getElem (by rw [← h.1]; exact l)]; rfl
      · rw [if_pos rfl, if_neg l, List.getElem?_eq_none (by rw [← h.1]; omega)]
    · rw [List.getElem?_set_ne c]
      exact h.2 k fun z => by
        rcases List.mem_cons.mp z with z | z
        · exact c z.symm
        · exact hk z
section
variable {K : PySem.W.Frag} {G H : Hp} {m m1 m2 : List Ty}
/-- the mask and the slots of the next turn -/
theorem rest_next {vs : List Nat} {σ σ3 : St} {ec e5 : En} {A5 : List Addr} (le : LeM m2 (hideM m1 vs)) (us : usB m1 vs = true) (ws : wipe σ3 vs = wipe σ vs) (st5 : Stt K m2 G H σ3 e5 A5) :
    ∃ G6 A6, Step A5 G H A6 G6 H ∧ Stt K (hideM m1 vs) G6 H (wipe σ vs) (restE ec e5 vs) A6 := by
  obtain ⟨G6, A6, s6, st6⟩ := stt_le le st5
  refine ⟨G6, A6, s6, ⟨?_, st6.nd, st6.sub⟩⟩
  have hidem : ∀ (us : List Nat) (e' : En) (σ' : St) {A : List Addr} {H : Hp} {G : Hp} {mm : List Ty}, OwnA K G H mm e' σ' A → (∀ v ∈ us, mm[v]? = some .u) → OwnA K G H mm (restE ec e' us) (wipe σ' us) A := by
    intro us
    induction us with
    | nil => intro e' σ' A H G mm h _; exact h
    | cons v us ih =>
      intro e' σ' A H G mm h hu
      unfold restE wipe
      have hv := hu v (List.mem_cons_self ..)
      have a := ownA_set0 (t := .u) (d := ec.getD v .none) (v := none) h (.inl hv) (.u _ _)
      rw [set_id hv] at a
      have b := ih _ _ a fun x hx => hu x (List.mem_cons_of_mem _ hx)
      have c : wipe (σ'.set v none) us = (wipe σ' us).set v none := by
        clear ih a b hv hu h
        induction us with
        | nil => rfl
        | cons u us ihu =>
          unfold wipe
          rw [ihu]
          by_cases q : u = v
          · subst q; rfl
          · rw [List.set_comm _ _ (fun z => q z.symm)]
      rw [c] at b; exact b
  have hu : ∀ v ∈ vs, (hideM m1 vs)[v]? = some .u := by
    have aux : ∀ us : List Nat, usB m1 us = true → ∀ v ∈ us, (hideM m1 us)[v]? = some .u := by
      intro us
      induction us with
      | nil => intro _ v h; cases h
      | cons u us ih =>
        intro hus v hv
        obtain ⟨h1, h2, h3⟩ := us_cons hus
        unfold hideM
        by_cases q : u = v
        · subst q
          have : u < (hideM m1 us).length := by
            rw [← hideM_get (m := m1) h2] at h1
            rcases h1 with z | z <;> exact (List.getElem?_eq_some_iff.mp z).1
          simp [this]
        · rw [List.getElem?_set_ne q]
          rcases List.mem_cons.mp hv with z | z
          · exact absurd z.symm q
          · exact ih h3 v z
    exact aux vs us
  have := hidem vs e5 σ3 st6.own hu
  rw [ws] at this
  exact this
end
theorem Agr.rest2 {vs ws : List Nat} {a b c : En} (h : Agr ws a c) (hb : Agr ws b c) (sub : ∀ v ∈ vs, v ∈ ws) : Agr ws (restE b a vs) c := by
  induction vs generalizing a with
  | nil => exact h
  | cons v vs ih => exact ih (h.set (sub v (List.mem_cons_self ..))) fun x hx => sub x (List.mem_cons_of_mem _ hx)
theorem wipe_nil {σ : St} {j : Nat} (h : σ[j]? = some none ∨ σ[j]? = none) : σ.set j none = σ := by
  rcases h with h | h
  · exact set_id h
  · exact List.set_eq_of_length_le (List.getElem?_eq_none_iff.mp h)
theorem DE.flat {K : PySem.W.Frag} {m m1 : List Ty} {wk : Bool} {wi wi1 : L2.TI} {g g1 : TG} {tt tt1 : TT} {te : TE} {f : Ef} {j0 j1 : Nat} {ml mi : List Ty} (hi : DI K wk m wi (iSeq f) m1)
    (hm2 : hideM m1 [j0, j1] = ml) (hg : DG K wk ml g [j0] (gNm j0) (ml.set j0 .s)) (ht : DT K (ml.set j0 .s) tt bYes (ml.set j0 .s)) (hi1 : DI K false (ml.set j0 .s) wi1 (iSeq (eVar j0)) (ml.set j0 .s))
    (hmi : hideM (ml.set j0 .s) [j1] = mi) (hg1 : DG K false mi g1 [j1] (gNm j1) (mi.set j1 .s)) (ht1 : DT K (mi.set j1 .s) tt1 bYes (mi.set j1 .s)) (he : DE K (mi.set j1 .s) te .s (eVar j1) (mi.set j1 .s))
    (us : usB m1 [j0, j1] = true) (us1 : usB (ml.set j0 .s) [j1] = true) (l1 : LeM (mi.set j1 .s) (hideM (ml.set j0 .s) [j1])) (l0 : LeM mi (hideM m1 [j0, j1])) (hj0 : j0 < m1.length) (hj1 : j1 < m1.length) :
    DE K m (tLc2 wi g tt wi1 g1 tt1 te [j0, j1] [j1]) (.l .s) (e1 gFlat f) m1 := by
  intro G H σ e A d e' Q st hf k
  unfold e1 at hf
  obtain ⟨⟨d1, e1⟩, hf1, hf⟩ := Option.bind_eq_some_iff.mp hf
  obtain ⟨r0, hf2, hf⟩ := Option.bind_eq_some_iff.mp hf
  cases hf
  unfold gFlat at hf2
  obtain ⟨ds, hds, hf2⟩ := Option.bind_eq_some_iff.mp hf2
  obtain ⟨ys, hys, hf2⟩ := Option.bind_eq_some_iff.mp hf2
  obtain ⟨hyl, rfl⟩ := ite_some hf2
  refine hi st (show iSeq f e = some (ds, e1) by unfold iSeq; rw [hf1]; show (seqD d1).bind _ = _; rw [hds]; rfl) fun G1 H1 A1 J s1 st1 wkJ hz => ?_
  intro D hD
  have st1' : Stt K (hideM m1 [j0, j1]) G1 H1 (wipe σ [j0, j1]) e1 A1 := ⟨wipeA st1.own us, st1.nd, st1.sub⟩
  obtain ⟨s2, st2, nd2, gD⟩ := new_o (o := .lst []) (B := []) st1' hD
  have len1 : e1.length = m1.length := (ownA_len st1.own).1.symm
  let T := fun (i : Nat) (Hc : Hp) => ∃ Gc ec A' acc da, LcI K (hideM m1 [j0, j1]) .s A1 G1 H1 D (wipe σ [j0, j1]) Gc Hc ec A' [] acc da ∧ flatD (ds.take i) = some da ∧ Agr [j0, j1] ec e1
  refine ⟨fun i mm Hc => mm = ds.length - i ∧ i ≤ ds.length ∧ T i Hc, ⟨ds.length, by omega, Nat.zero_le _, G1, e1, A1, [], [], ⟨s2, st2, upd_same, gD, .nil, nd2⟩, rfl, rfl, fun k _ => rfl⟩, ?_⟩
  rintro i mm Hc ⟨rfl, hle, Gc, ec, A', acc, da, I, hda, agr⟩
  have sub1 : Same G1 Hc := I.step.sg.trans I.st.sub
  by_cases hi' : i < ds.length
  · refine .inr ⟨wkJ.goes i Hc hi' sub1, fun Hn => i < ds.length ∧ T (i + 1) Hn, fun Hn hn => ⟨ds.length - (i + 1), by omega, rfl, by omega, hn.2⟩, fun x Hy hy => ?_⟩
    obtain ⟨Gy, sy, sty, sgy, qy⟩ := wkJ.yields hi' I.step.sg I.st hy
    have sty' : Stt K ml Gy Hy (wipe σ [j0, j1]) ec A' := by rw [← hm2]; exact sty
    obtain ⟨xs, hxs⟩ := flat_some hys hi'
    rw [List.getElem?_eq_getElem hi'] at hxs
    have hxs : seqD ds[i] = some xs := hxs
    refine hg sty' (qy _ (List.getElem?_eq_getElem hi')) rfl fun G3 H3 σ3 A3 s3 st3 k3 l3 => ⟨wipe_eq (fun j hj => by simp at hj; simp [hj]) k3 l3, ?_⟩
    have wσ : wipe σ3 [j0, j1] = wipe σ [j0, j1] := wipe_eq (fun j hj => by simp at hj; simp [hj]) k3 l3
    refine ht st3 rfl fun G4 H4 A4 s4 st4 => ?_
    rw [if_pos rfl]
    have lec : j0 < ec.length := by rw [agr.1, len1]; exact hj0
    have hv : iSeq (eVar j0) (ec.set j0 ds[i]) = some (xs, ec.set j0 ds[i]) := by
      show ((some ((ec.set j0 ds[i]).getD j0 .none, ec.set j0 ds[i])).bind fun p => (seqD p.1).bind fun l => some (l, p.2)) = _
      rw [Option.bind_some, List.getD_eq_getElem?_getD, List.getElem?_set_self lec]
      show (seqD ds[i]).bind _ = _
      rw [hxs]; rfl
    refine hi1 st4 hv fun G5 H5 A5 J1 s5 st5 wk1 hz1 => ?_
    have s35 := ((sy.seq0 s3).seq0 s4).seq0 s5
    obtain ⟨s6, nd6, atD6, gD6, own6⟩ := I.move s35 st5.nd
    have st6 : Stt K (hideM (ml.set j0 .s) [j1]) G5 H5 (wipe σ3 [j1]) (ec.set j0 ds[i]) A5 := ⟨wipeA st5.own us1, st5.nd, st5.sub⟩
    have agr0 : Agr [j0, j1] (ec.set j0 ds[i]) e1 := agr.set (by simp)
    have snoc := flat_snoc hda hxs
    rw [← List.take_succ_eq_append_getElem hi'] at snoc
    have cut := flat_cut (i + 1) hys
    rw [snoc] at cut
    obtain ⟨zs, hzs, hzl⟩ := cut
    cases hzs
    rw [List.length_append] at hzl
    let T1 := fun (j : Nat) (Hc : Hp) => ∃ Gc ec1 A' acc1, LcI K (hideM (ml.set j0 .s) [j1]) .s A1 G1 H1 D (wipe σ3 [j1]) Gc Hc ec1 A' [] acc1 (da ++ xs.take j) ∧ Agr [j0, j1] ec1 e1 ∧ Same G5 Gc
    refine ⟨fun j kk Hc => kk = xs.length - j ∧ j ≤ xs.length ∧ T1 j Hc, ⟨xs.length, by omega, Nat.zero_le _, G5, ec.set j0 ds[i], A5, acc, ⟨s6, st6, atD6, gD6, by rw [List.take_zero, List.append_nil]; exact own6, nd6⟩, agr0, Same.refl _⟩, ?_⟩
    rintro j kk Hc1 ⟨rfl, hle1, Gc1, ec1, A'1, acc1, I1, agr1, sg1⟩
    by_cases hj : j < xs.length
    · refine .inr ⟨wk1.goes j Hc1 hj (sg1.trans I1.st.sub), fun Hn => j < xs.length ∧ T1 (j + 1) Hn, fun Hn hn => ⟨xs.length - (j + 1), by omega, rfl, by omega, hn.2⟩, fun y Hy1 hy1 => ?_⟩
      obtain ⟨Gy1, sy1, sty1, sgy1, qy1⟩ := wk1.yields hj sg1 I1.st hy1
      have sty1' : Stt K mi Gy1 Hy1 (wipe σ3 [j1]) ec1 A'1 := by rw [← hmi]; exact sty1
      refine hg1 sty1' (qy1 _ (List.getElem?_eq_getElem hj)) rfl fun G7 H7 σ7 A7 s7 st7 k7 l7 => ⟨wipe_eq (fun j hj => hj) k7 l7, ?_⟩
      have wσ7 : wipe σ7 [j1] = wipe σ3 [j1] := wipe_eq (fun j hj => hj) k7 l7
      refine ht1 st7 rfl fun G8 H8 A8 s8 st8 => ?_
      rw [if_pos rfl]
      have lec1 : j1 < ec1.length := by rw [agr1.1, len1]; exact hj1
      have hv1 : eVar j1 (ec1.set j1 xs[j]) = some (xs[j], ec1.set j1 xs[j]) := by
        show some ((ec1.set j1 xs[j]).getD j1 .none, ec1.set j1 xs[j]) = _
        rw [List.getD_eq_getElem?_getD, List.getElem?_set_self lec1]; rfl
      refine he st8 hv1 fun G9 H9 v Av A9 s9 st9 o9 nd9 => ?_
      cases o9 with
      | s q9 =>
        obtain ⟨G10, A10, s10, st10⟩ := rest_next (ec := ec1) l1 us1 wσ7 st9
        have s79 := ((sy1.seq0 s7).seq0 s8).seq0 (s9.seq0 s10)
        obtain ⟨sX, ndX, atX, gX, ownX⟩ := I1.move s79 st10.nd
        have hacc : acc1.length = (da ++ xs.take j).length := by have := (ownA_len I1.own).2; simpa using this
        have hz' : acc1.length < sizeLine := by
          rw [hacc, List.length_append, List.length_take]; omega
        refine ⟨acc1, atX, hz', hj, G10, restE ec1 (ec1.set j1 xs[j]) [j1], A10, acc1 ++ [v], ?_, Agr.rest2 (agr1.set (by simp)) agr1 (fun v hv => by simp at hv; simp [hv]), ((sg1.trans sgy1).trans (s7.sg.trans s8.sg)).trans (s9.sg.trans s10.sg)⟩
        have nD : ∀ a ∈ A10, a ≠ D := fun a ha z => (List.nodup_cons.mp ndX).1 (z ▸ ha)
        have frD : ∀ a, a ≠ D → upd H9 D (.lst (acc1 ++ [v])) a = H9 a := fun a ha => upd_ne ha
        refine ⟨⟨sX.sg, fun a o h ha => ?_, sX.own, sX.gnew⟩, ⟨ownA_fr st10.own (Same.refl _) (fun a ha => (ownA_at st10.own a ha).1) fun a ha => frD a (nD a ha), st10.nd, fun b x hx => ?_⟩, upd_same, gX, ?_, ndX⟩
        · rw [frD a (ne_of_none h hD)]; exact sX.fr a o h ha
        · rw [frD b (ne_of_none hx gX)]; exact st10.sub b x hx
        · have a1 : OwnA K G10 (upd H9 D (.lst (acc1 ++ [v]))) (List.replicate (da ++ xs.take j).length .s) (da ++ xs.take j) (acc1.map some) [] := ownA_fr ownX (Same.refl _) (fun a ha => by cases ha) fun a ha => by cases ha
          have a2 : Own K G10 (upd H9 D (.lst (acc1 ++ [v]))) .s xs[j] (some v) [] := .s (q9.mono s10.sg)
          have a3 := ownA_snoc a1 a2
          have eda : da ++ xs.take (j + 1) = (da ++ xs.take j) ++ [xs[j]] := by rw [List.take_succ_eq_append_getElem hj, List.append_assoc]
          rw [eda, List.length_append, List.length_singleton, List.replicate_succ', List.map_append]
          exact a3
    · have hje : j = xs.length := by omega
      subst hje
      refine .inl ⟨wk1.stops Hc1 (sg1.trans I1.st.sub), hi', ?_⟩
      have own1 : Stt K mi Gc1 Hc1 (wipe σ3 [j1]) ec1 A'1 := by rw [← hmi]; exact I1.st
      have ww : wipe (wipe σ3 [j1]) [j0, j1] = wipe σ [j0, j1] := by
        rw [← wσ]
        show (((σ3.set j1 none).set j1 none).set j0 none) = ((σ3.set j1 none).set j0 none)
        rw [List.set_set]
      obtain ⟨G11, A11, s11, st11⟩ := rest_next (ec := ec1) l0 us ww own1
      obtain ⟨sX, ndX, atX, gX, ownX⟩ := I1.move s11 st11.nd
      rw [List.take_length] at ownX
      refine ⟨G11, restE ec1 ec1 [j0, j1], A11, acc1, da ++ xs, ⟨sX, st11, atX, gX, ownX, ndX⟩, snoc, Agr.rest2 agr1 agr1 fun v hv => hv⟩
  · have hie : i = ds.length := by omega
    subst hie
    refine .inl ⟨wkJ.stops Hc sub1, ?_⟩
    rw [List.take_length, hys] at hda
    cases hda
    have un := unwipeA (e' := ec) st1.own I.step.sg us I.st.own
    rw [agr.rest] at un
    refine k Gc Hc (.ref D) [D] A' (s1.seq0 ⟨I.step.sg, I.step.fr, I.step.own, I.step.gnew⟩) ⟨un, I.st.nd, I.st.sub⟩ (.l I.gD I.atD ?_ I.own) I.nd
    have hacc := (ownA_len I.own).2
    rw [List.length_map] at hacc
    omega
section
variable {ι : Type} {Xf : ι → Cx} {P : Program} {w : World} {K : PySem.W.Frag} {mg : Str → Option Value} {base : Heap} {n : Nat} [F : Fam Xf P w K mg base n]
variable {m m1 : List Ty} {pos p0 p1 p2 p3 : Pos} {iter : Expr} {scope : Scope} {f : Ef} {x0 x1 : Str} {j0 j1 : Nat}
include F in
theorem pd_flat [FG : FamG Xf] {wk : Bool} (own : List (Str × Nat)) (how : own.map (·.2) = [j0, j1]) (hi : PIt Xf K wk m (.Name x0 p0) iter (iSeq f) m1)
    (hg : PGD (blkF Xf scope) K wk (hideM m1 [j0, j1]) (.Name x0 p0) [j0] (gNm j0) ((hideM m1 [j0, j1]).set j0 .s)) (hi1 : PIt (blkF Xf scope) K false ((hideM m1 [j0, j1]).set j0 .s) (.Name x1 p2) (.Name x0 p3) (iSeq (eVar j0)) ((hideM m1 [j0, j1]).set j0 .s))
    (hg1 : PGD (blkF Xf scope) K false (hideM ((hideM m1 [j0, j1]).set j0 .s) [j1]) (.Name x1 p2) [j1] (gNm j1) ((hideM ((hideM m1 [j0, j1]).set j0 .s) [j1]).set j1 .s))
    (he : PD (blkF Xf scope) K ((hideM ((hideM m1 [j0, j1]).set j0 .s) [j1]).set j1 .s) (.Name x1 p1) .s (eVar j1) ((hideM ((hideM m1 [j0, j1]).set j0 .s) [j1]).set j1 .s))
    (ht : PTsD (blkF Xf scope) K ((hideM m1 [j0, j1]).set j0 .s) [] bYes) (ht1 : PTsD (blkF Xf scope) K ((hideM ((hideM m1 [j0, j1]).set j0 .s) [j1]).set j1 .s) [] bYes)
    (l1 : LeM ((hideM ((hideM m1 [j0, j1]).set j0 .s) [j1]).set j1 .s) (hideM ((hideM m1 [j0, j1]).set j0 .s) [j1]) := by repeat (first | exact .nil | refine .cons (by first | exact .rfl _ | exact .u _) ?_)) (l0 : LeM (hideM ((hideM m1 [j0, j1]).set j0 .s) [j1]) (hideM m1 [j0, j1]) := by repeat (first | exact .nil | refine .cons (by first | exact .rfl _ | exact .u _) ?_))
    (ok : ∀ i, BlkOk (Xf i).N (Xf i).env.scope scope own := by intro _; exact blkOk_by (by rfl)) (us : usB m1 [j0, j1] = true := by rfl) (us1 : usB ((hideM m1 [j0, j1]).set j0 .s) [j1] = true := by rfl) (hj0 : j0 < m1.length := by decide) (hj1 : j1 < m1.length := by decide)
    (hf : ∀ i x, foldedSetIterable iter (Xf i).env x = pure x := by intro _ _; rfl) :
    PD Xf K m (.ListComp (.Name x1 p1) [⟨.Name x0 p0, iter, [], 0⟩, ⟨.Name x1 p2, .Name x0 p3, [], 0⟩] scope pos) (.l .s) (e1 gFlat f) m1 := by
  obtain ⟨wi, pi, di⟩ := hi.ex
  obtain ⟨g, pg, dg⟩ := hg.ex
  obtain ⟨wi1, pi1, di1⟩ := hi1.ex
  obtain ⟨g1, pg1, dg1⟩ := hg1.ex
  obtain ⟨te, pe, de⟩ := he.ex
  obtain ⟨tt, pt, dt⟩ := ht.ex
  obtain ⟨tt1, pt1, dt1⟩ := ht1.ex
  refine ⟨tLc2 wi g tt wi1 g1 tt1 te [j0, j1] [j1], fun i => ?_, DE.flat di rfl dg dt di1 rfl dg1 dt1 de us us1 l1 l0 hj0 hj1⟩
  rw [← how]
  exact pe_lc2 (FG.calm i) (F.nd i) (pi i) (ok i) (by rw [how]; intro v hv; simp at hv; simp [hv]) (fun s H C cl fp => pg ⟨i, s, H, C, cl, fp⟩) (fun s H C cl fp => pt ⟨i, s, H, C, cl, fp⟩) (fun s H C cl fp => pi1 ⟨i, s, H, C, cl, fp⟩) (fun s H C cl fp => pg1 ⟨i, s, H, C, cl, fp⟩) (fun s H C cl fp => pt1 ⟨i, s, H, C, cl, fp⟩) (fun s H C cl fp => pe ⟨i, s, H, C, cl, fp⟩) (hf i)
end
end DL

/-! owned lists read as stable ones for the time of one expression -/
namespace DL
open PySem L2 PySem.Spec
def sc1 : PyData → Bool
  | .none => true
  | .bool _ => true
  | .int _ => true
  | .str _ => true
  | _ => false
def flat1 : PyData → Bool
  | .tuple xs => xs.all sc1
  | d => sc1 d
def eThaw (f : Ef) : Ef := fun e => (f e).bind fun p => (grd (flat1 p.1)).bind fun _ => some p
def PureE (f : Ef) : Prop := ∀ e d e', f e = some (d, e') → e' = e
def PureB (f : Bf) : Prop := ∀ e d e', f e = some (d, e') → e' = e
def PureL (f : Lf) : Prop := ∀ e d e', f e = some (d, e') → e' = e
def PureO (f : Of) : Prop := ∀ e d e', f e = some (d, e') → e' = e
def AgrG (vs : List Nat) (g : Gf) : Prop := ∀ d e e', g d e = some e' → Agr vs e' e
def AgrGs (vs : List Nat) (g : Gsf) : Prop := ∀ ds e e', g ds e = some e' → Agr vs e' e
section
variable {f g h : Ef} {fb gb : Bf} {fl gl : Lf} {fo go : Of} {gf : Gf} {gs : Gsf} {vs : List Nat} {fq gq : Gq}
theorem pure_var {j : Nat} : PureE (eVar j) := fun e d e' h => by cases h; rfl
theorem pure_c {d : PyData} : PureE (eC d) := fun e d e' h => by cases h; rfl
theorem pure_e1 {gg : PyData → Option PyData} (h : PureE f) : PureE (e1 gg f) := fun e d e' hh => by
  obtain ⟨⟨a, ea⟩, h1, h2⟩ := Option.bind_eq_some_iff.mp hh
  obtain ⟨r, _, h3⟩ := Option.bind_eq_some_iff.mp h2
  cases h3
  exact h _ _ _ h1
theorem pure_e2 {gg : PyData → PyData → Option PyData} (h : PureE f) (k : PureE g) : PureE (e2 gg f g) := fun e d e' hh => by
  obtain ⟨⟨a, ea⟩, h1, h2⟩ := Option.bind_eq_some_iff.mp hh
  obtain ⟨⟨b, eb⟩, h3, h4⟩ := Option.bind_eq_some_iff.mp h2
  obtain ⟨r, _, h5⟩ := Option.bind_eq_some_iff.mp h4
  cases h5
  have z1 := h _ _ _ h1
  have z2 := k _ _ _ h3
  rw [z2, z1]
theorem purel_nil : PureL lNil := fun e d e' h => by cases h; rfl
theorem purel_cons (h : PureE f) (k : PureL fl) : PureL (lCons f fl) := fun e d e' hh => by
  obtain ⟨⟨a, ea⟩, h1, h2⟩ := Option.bind_eq_some_iff.mp hh
  obtain ⟨⟨b, eb⟩, h3, h4⟩ := Option.bind_eq_some_iff.mp h2
  cases h4
  have z1 := h _ _ _ h1
  have z2 := k _ _ _ h3
  rw [z2, z1]
theorem pure_tup (h : PureL fl) : PureE (eTup fl) := fun e d e' hh => by
  rw [rTup] at hh
  obtain ⟨⟨a, ea⟩, h1, h2⟩ := Option.bind_eq_some_iff.mp hh
  cases h2
  exact h _ _ _ h1
theorem pure_lst (h : PureL fl) : PureE (eLst fl) := fun e d e' hh => by
  rw [rLst] at hh
  obtain ⟨⟨a, ea⟩, h1, h2⟩ := Option.bind_eq_some_iff.mp hh
  cases h2
  exact h _ _ _ h1
theorem pure_call {Fn : DFn} (h : PureL fl) : PureE (eCall Fn fl) := fun e d e' hh => by
  obtain ⟨⟨a, ea⟩, h1, h2⟩ := Option.bind_eq_some_iff.mp hh
  obtain ⟨q, _, h3⟩ := Option.bind_eq_some_iff.mp h2
  cases h3
  exact h _ _ _ h1
theorem pure_q : PureE (eQ fq) := fun e d e' hh => by
  obtain ⟨a, _, h2⟩ := Option.bind_eq_some_iff.mp hh
  obtain ⟨_, h3⟩ := ite_some h2
  cases h3; rfl
theorem pure_itm : PureE (eItm fq gq) := fun e d e' hh => by
  obtain ⟨a, _, h2⟩ := Option.bind_eq_some_iff.mp hh
  obtain ⟨b, _, h3⟩ := Option.bind_eq_some_iff.mp h2
  obtain ⟨c, _, h4⟩ := Option.map_eq_some_iff.mp h3
  cases h4; rfl
theorem pureb_t (h : PureE f) : PureB (bT f) := fun e d e' hh => by
  rw [rbT] at hh
  obtain ⟨⟨a, ea⟩, h1, h2⟩ := Option.bind_eq_some_iff.mp hh
  obtain ⟨b, _, h3⟩ := Option.bind_eq_some_iff.mp h2
  cases h3
  exact h _ _ _ h1
theorem pureb_of (h : PureE f) : PureB (bOf f) := fun e d e' hh => by
  rw [rbOf] at hh
  obtain ⟨⟨a, ea⟩, h1, h2⟩ := Option.bind_eq_some_iff.mp hh
  obtain ⟨b, _, h3⟩ := Option.bind_eq_some_iff.mp h2
  cases h3
  exact h _ _ _ h1
theorem pureb_not (h : PureB fb) : PureB (bNot fb) := fun e d e' hh => by
  rw [rbNot] at hh
  obtain ⟨⟨a, ea⟩, h1, h2⟩ := Option.bind_eq_some_iff.mp hh
  cases h2
  exact h _ _ _ h1
theorem pureb_and (h : PureB fb) (k : PureB gb) : PureB (bAnd fb gb) := fun e d e' hh => by
  rw [rbAnd] at hh
  obtain ⟨⟨a, ea⟩, h1, h2⟩ := Option.bind_eq_some_iff.mp hh
  have z1 := h _ _ _ h1
  subst z1
  cases a with
  | true => exact k _ _ _ h2
  | false => cases h2; rfl
theorem pureb_or (h : PureB fb) (k : PureB gb) : PureB (bOr fb gb) := fun e d e' hh => by
  rw [rbOr] at hh
  obtain ⟨⟨a, ea⟩, h1, h2⟩ := Option.bind_eq_some_iff.mp hh
  have z1 := h _ _ _ h1
  subst z1
  cases a with
  | true => cases h2; rfl
  | false => exact k _ _ _ h2
theorem pureb_q : PureB (bQ fq) := fun e d e' hh => by
  obtain ⟨a, _, h2⟩ := Option.bind_eq_some_iff.mp hh
  obtain ⟨_, _, h3⟩ := Option.map_eq_some_iff.mp h2
  cases h3; rfl
theorem pureb_qt : PureB (bQT fq) := fun e d e' hh => by
  rw [rbQT] at hh
  obtain ⟨a, _, h2⟩ := Option.bind_eq_some_iff.mp hh
  obtain ⟨_, _, h3⟩ := Option.bind_eq_some_iff.mp h2
  cases h3; rfl
theorem pureb_yes : PureB bYes := fun e d e' h => by cases h; rfl
theorem purei_seq (h : PureE f) : PureL (iSeq f) := fun e d e' hh => by
  rw [riSeq] at hh
  obtain ⟨⟨a, ea⟩, h1, h2⟩ := Option.bind_eq_some_iff.mp hh
  obtain ⟨_, _, h3⟩ := Option.bind_eq_some_iff.mp h2
  cases h3
  exact h _ _ _ h1
theorem purei_en (h : PureE f) : PureL (iEn f) := fun e d e' hh => by
  rw [riEn] at hh
  obtain ⟨⟨a, ea⟩, h1, h2⟩ := Option.bind_eq_some_iff.mp hh
  obtain ⟨_, _, h3⟩ := Option.bind_eq_some_iff.mp h2
  cases h3
  exact h _ _ _ h1
theorem purei_r1 (h : PureE f) : PureL (iR1 f) := fun e d e' hh => by
  rw [riR1] at hh
  obtain ⟨⟨a, ea⟩, h1, h2⟩ := Option.bind_eq_some_iff.mp hh
  obtain ⟨_, _, h3⟩ := Option.bind_eq_some_iff.mp h2
  cases h3
  exact h _ _ _ h1
theorem purei_zp (h : PureE f) (k : PureE g) : PureL (iZp f g) := fun e d e' hh => by
  rw [riZp] at hh
  obtain ⟨⟨a, ea⟩, h1, h2⟩ := Option.bind_eq_some_iff.mp hh
  obtain ⟨⟨b, eb⟩, h3, h4⟩ := Option.bind_eq_some_iff.mp h2
  obtain ⟨_, _, h5⟩ := Option.bind_eq_some_iff.mp h4
  cases h5
  have z1 := h _ _ _ h1
  have z2 := k _ _ _ h3
  rw [z2, z1]
theorem purei_r2 (h : PureE f) (k : PureE g) : PureL (iR2 f g) := fun e d e' hh => by
  rw [riR2] at hh
  obtain ⟨⟨a, ea⟩, h1, h2⟩ := Option.bind_eq_some_iff.mp hh
  obtain ⟨⟨b, eb⟩, h3, h4⟩ := Option.bind_eq_some_iff.mp h2
  obtain ⟨_, _, h5⟩ := Option.bind_eq_some_iff.mp h4
  cases h5
  have z1 := h _ _ _ h1
  have z2 := k _ _ _ h3
  rw [z2, z1]
theorem pureo_none : PureO oNone := fun e d e' h => by cases h; rfl
theorem pureo_some (h : PureE f) : PureO (oSome f) := fun e d e' hh => by
  rw [roSome] at hh
  obtain ⟨⟨a, ea⟩, h1, h2⟩ := Option.bind_eq_some_iff.mp hh
  obtain ⟨_, _, h3⟩ := Option.bind_eq_some_iff.mp h2
  cases h3
  exact h _ _ _ h1
theorem pure_sl {gg : PyData → Option Int → Option Int → Option PyData} (h : PureE f) (k : PureO fo) (l : PureO go) : PureE (eSl gg f fo go) := fun e d e' hh => by
  rw [reSl] at hh
  obtain ⟨⟨a, ea⟩, h1, h2⟩ := Option.bind_eq_some_iff.mp hh
  obtain ⟨⟨b, eb⟩, h3, h4⟩ := Option.bind_eq_some_iff.mp h2
  obtain ⟨⟨c, ec⟩, h5, h6⟩ := Option.bind_eq_some_iff.mp h4
  obtain ⟨_, _, h7⟩ := Option.bind_eq_some_iff.mp h6
  cases h7
  have z1 := h _ _ _ h1
  have z2 := k _ _ _ h3
  have z3 := l _ _ _ h5
  rw [z3, z2, z1]
theorem Agr.refl {vs : List Nat} {a : En} : Agr vs a a := ⟨rfl, fun _ _ => rfl⟩
theorem Agr.trans {vs : List Nat} {a b c : En} (h : Agr vs a b) (k : Agr vs b c) : Agr vs a c := ⟨h.1.trans k.1, fun j hj => (h.2 j hj).trans (k.2 j hj)⟩
theorem agr_nm {j : Nat} (h : j ∈ vs) : AgrG vs (gNm j) := fun d e e' hh => by cases hh; exact Agr.refl.set h
theorem agr_nil : AgrGs vs gsNil := fun ds e e' hh => by
  cases ds with
  | nil => cases hh; exact Agr.refl
  | cons => cases hh
theorem agr_cons (h : AgrG vs gf) (k : AgrGs vs gs) : AgrGs vs (gsCons gf gs) := fun ds e e' hh => by
  cases ds with
  | nil => cases hh
  | cons d ds =>
    obtain ⟨e1, h1, h2⟩ := Option.bind_eq_some_iff.mp hh
    exact (k _ _ _ h2).trans (h _ _ _ h1)
theorem agr_tp {n : Nat} (h : AgrGs vs gs) : AgrG vs (gTp n gs) := fun d e e' hh => by
  cases d with
  | tuple ds =>
    have hh : (if ds.length = n then gs ds e else none) = some e' := hh
    obtain ⟨_, h2⟩ := ite_some2 hh
    exact h _ _ _ h2
  | _ => cases hh
theorem lcL_pure (hg : AgrG vs gf) (ht : PureB fb) (he : PureE f) : ∀ (ds : List PyData) (e : En) (r : List PyData) (e' : En), lcL vs gf fb f ds e = some (r, e') → e' = e
  | [], e, r, e', h => by cases h; rfl
  | d :: ds, e, r, e', h => by
    unfold lcL at h
    obtain ⟨e2, h1, h⟩ := Option.bind_eq_some_iff.mp h
    obtain ⟨⟨b, e3⟩, h2, h⟩ := Option.bind_eq_some_iff.mp h
    have z2 := ht _ _ _ h2
    subst z2
    have ag := hg _ _ _ h1
    cases b with
    | true =>
      rw [if_pos rfl] at h
      obtain ⟨⟨y, e4⟩, h3, h⟩ := Option.bind_eq_some_iff.mp h
      have z3 : e4 = e3 := he _ _ _ h3
      obtain ⟨⟨r1, e5⟩, h4, h⟩ := Option.bind_eq_some_iff.mp h
      simp only [Option.some.injEq, Prod.mk.injEq] at h
      rw [← h.2]
      have h4 : lcL vs gf fb f ds (restE e e4 vs) = some (r1, e5) := h4
      rw [z3, ag.rest] at h4
      exact lcL_pure hg ht he ds e _ _ h4
    | false =>
      rw [if_neg (by simp)] at h
      rw [ag.rest] at h
      exact lcL_pure hg ht he ds e _ _ h
theorem pure_lc (hi : PureL fl) (hg : AgrG vs gf) (ht : PureB fb) (he : PureE f) : PureE (eLc fl vs gf fb f) := fun e d e' hh => by
  obtain ⟨⟨ds, ea⟩, h1, h2⟩ := Option.bind_eq_some_iff.mp hh
  obtain ⟨⟨r, eb⟩, h3, h4⟩ := Option.bind_eq_some_iff.mp h2
  cases h4
  have z1 := hi _ _ _ h1
  subst z1
  have z2 := lcL_pure hg ht he _ _ _ _ h3
  subst z2
  exact Agr.rest Agr.refl
end
section
variable {K : PySem.W.Frag} {G G' H H' : Hp}
/-- an owned address holds a list or a dict -/
theorem own_kind {t : Ty} {d : PyData} {v : Option V} {A : List Addr} (h : Own K G H t d v A) : ∀ a ∈ A, (∃ vs, H a = some (.lst vs)) ∨ ∃ kvs, H a = some (.dK kvs) := by
  refine Own.rec (K := K) (G := G) (H := H) (motive_1 := fun t d v A _ => ∀ a ∈ A, (∃ vs, H a = some (.lst vs)) ∨ ∃ kvs, H a = some (.dK kvs)) (motive_2 := fun ts ds vs A _ => ∀ a ∈ A, (∃ vs, H a = some (.lst vs)) ∨ ∃ kvs, H a = some (.dK kvs)) ?_ ?_ ?_ ?_ ?_ ?_ ?_ ?_ ?_ ?_ ?_ h
  · intro d v a ha; cases ha
  · intro d v _ a ha; cases ha
  · intro a ns _ _ b hb; cases hb
  · intro a kvs ds h1 h2 _ _ _ b hb
    rw [List.mem_singleton.mp hb]
    exact .inr ⟨_, h2⟩
  · intro t a vs ds A h1 h2 _ _ ih b hb
    rcases List.mem_cons.mp hb with rfl | hb
    · exact .inl ⟨_, h2⟩
    · exact ih b hb
  · intro t a vs ds A h1 h2 _ _ ih b hb
    rcases List.mem_cons.mp hb with rfl | hb
    · exact .inl ⟨_, h2⟩
    · exact ih b hb
  · intro a dx fs c ds _ _ b hb; cases hb
  · intro t d v A _ ih; exact ih
  · intro d v b hb; cases hb
  · intro a ha; cases ha
  · intro t ts d ds v vs A B _ _ i1 i2 a ha
    rcases List.mem_append.mp ha with ha | ha
    · exact i1 a ha
    · exact i2 a ha
theorem ownA_kind {t : List Ty} {d : List PyData} {v : List (Option V)} {A : List Addr} (h : OwnA K G H t d v A) : ∀ a ∈ A, (∃ vs, H a = some (.lst vs)) ∨ ∃ kvs, H a = some (.dK kvs) := by
  induction t generalizing d v A with
  | nil => cases h; intro a ha; cases ha
  | cons t ts ih =>
    cases h with
    | cons h1 h2 =>
      intro a ha
      rcases List.mem_append.mp ha with ha | ha
      · exact own_kind h1 a ha
      · exact ih h2 a ha
theorem sc1_dq {v : V} {d : PyData} (h : Dq K G v d) (hs : sc1 d = true) : Dq K G' v d := by
  cases h with
  | non => exact .non
  | bl b => exact .bl b
  | int i => exact .int i
  | str x hx => exact .str x hx
  | lst => cases hs
  | tup => cases hs
  | dic => cases hs
theorem flat1_dq {v : V} {d : PyData} (h : Dq K G v d) (hs : flat1 d = true) (same : ∀ (a : Addr) (o : Obj) (xs : List V), G a = some (.frz o (.tup xs)) → G' a = some (.frz o (.tup xs))) : Dq K G' v d := by
  cases h with
  | non => exact .non
  | bl b => exact .bl b
  | int i => exact .int i
  | str x hx => exact .str x hx
  | lst => cases hs
  | dic => cases hs
  | tup hn hl hz q =>
    refine .tup ?_ hl hz fun i v d h1 h2 => sc1_dq (q i v d h1 h2) (List.all_eq_true.mp hs d (List.mem_of_getElem? h2))
    rcases hn with ⟨o, h1, h2, h3⟩ | h
    · exact .inl ⟨o, h1, h2, same _ _ _ h3⟩
    · exact .inr h
theorem DE.thaw {te : TE} {f : Ef} {m mf : List Ty} (l : LeM m mf) (hs : ∀ t ∈ mf, stb t = true) (he : DE K mf te .s f mf) (hp : PureE f) : DE K m te .s (eThaw f) m := by
  intro G H σ e A d e' Q st hf k
  obtain ⟨⟨d1, e1⟩, hf1, hf2⟩ := Option.bind_eq_some_iff.mp hf
  obtain ⟨u, hg, hf3⟩ := Option.bind_eq_some_iff.mp hf2
  cases hf3
  have hfl : flat1 d = true := by
    unfold grd at hg
    split at hg
    · assumption
    · cases hg
  have z := hp _ _ _ hf1
  subst z
  obtain ⟨G1, A1, s1, st1⟩ := stt_le l st
  have z1 := stab_nil st1.own hs
  subst z1
  refine he st1 hf1 fun G2 H2 v Av A2 s2 st2 o2 nd2 => ?_
  have z2 := stab_nil st2.own hs
  subst z2
  cases o2 with
  | s q2 =>
    have at1 := ownA_at st.own
    have newA : ∀ a, G a = none → (∃ o, G1 a = some o) → a ∈ A := fun a h1 ⟨o, h2⟩ => by
      rcases s1.gnew a h1 ⟨o, h2⟩ with h | h
      · exact h
      · rw [st1.sub a o h2] at h; cases h
    have keep : ∀ a o, H a = some o → H2 a = some o := fun a o h => s2.fr a o h (by simp)
    have sg : Same G (fun b => if b ∈ A then none else G2 b) := fun b x hx => by
      have nb : b ∉ A := fun hb => by rw [(at1 b hb).1] at hx; cases hx
      show (if b ∈ A then none else G2 b) = some x
      rw [if_neg nb]
      exact s2.sg b x (s1.sg b x hx)
    refine k (fun b => if b ∈ A then none else G2 b) H2 v [] A ⟨sg, fun a o h _ => keep a o h, fun a ha => .inl (by simpa using ha), fun a h1 ⟨o, h2⟩ => ?_⟩ ⟨ownA_fr st.own sg (fun a ha => if_pos ha) fun a ha => ?_, st.nd, fun b x hx => ?_⟩ (.s (flat1_dq q2 hfl fun a o xs h => ?_)) (by simpa using st.nd)
    · by_cases ha : a ∈ A
      · exact .inl (by simpa using ha)
      · have h2 : (if a ∈ A then none else G2 a) = some o := h2
        rw [if_neg ha] at h2
        by_cases g1 : G1 a = none
        · rcases s2.gnew a g1 ⟨o, h2⟩ with h | h
          · cases h
          · exact .inr h
        · obtain ⟨x, hx⟩ := Option.ne_none_iff_exists'.mp g1
          exact absurd (newA a h1 ⟨x, hx⟩) ha
    · obtain ⟨_, o, ho⟩ := at1 a ha
      rw [ho, keep a o ho]
    · have hx : (if b ∈ A then none else G2 b) = some x := hx
      by_cases hb : b ∈ A
      · rw [if_pos hb] at hx; cases hx
      · rw [if_neg hb] at hx; exact st2.sub b x hx
    · have na : a ∉ A := fun ha => by
        have h2 := st2.sub a _ h
        rcases ownA_kind st.own a ha with ⟨vs, z⟩ | ⟨kvs, z⟩
        · rw [keep a _ z] at h2; cases h2
        · rw [keep a _ z] at h2; cases h2
      show (if a ∈ A then none else G2 a) = _
      rw [if_neg na]; exact h
end
theorem pd_thaw {ι : Type} {Xf : ι → Cx} {K : PySem.W.Frag} {m : List Ty} (mf : List Ty) {a : Expr} {f : Ef} (l : LeM m mf) (hp : PureE f) (ha : PD Xf K mf a .s f mf) (hs : ∀ t ∈ mf, stb t = true := by decide) : PD Xf K m a .s (eThaw f) m := by
  obtain ⟨te, pe, de⟩ := ha.ex
  exact ⟨te, pe, DE.thaw l hs de hp⟩
/-- while True -/
def bTrue : Bf := fun e => some (true, e)
theorem pb_true {ι : Type} {Xf : ι → Cx} {K : PySem.W.Frag} {m : List Ty} {k : Nat} {pos : Pos} {jn} : PB Xf K m (.Constant (.bool true) jn pos) bTrue m :=
  ⟨_, fun i => pt_val pe_bl, fun st hf k => by cases hf; exact ⟨true, rfl, k _ _ _ Step.refl st⟩⟩
end DL

namespace DL
open PySem L2 PySem.Spec
def gAugS (l i y : PyData) : Option PyData := match l, i, y with
  | .list ds, .int k, .int y => (ixN ds.length k).bind fun j => match ds[j]? with
    | some (.int x) => if 0 ≤ k then some (.list (ds.set j (.int (x + y)))) else none
    | _ => none
  | _, _, _ => none
/-- o[i] += v, the list at a place -/
def sAugS (g : Gq) (pt : Pf) (gi gv : Gq) : Sf := fun e => (g e).bind fun d => (gi e).bind fun i => (gv e).bind fun v => (gAugS d i v).bind fun l => some (.nx, pt e l)
def rGetL : V → V → Hp → VK → Prop := fun o i H Q => ∃ p xs k j v, o = .ref p ∧ i = .int k ∧ H p = some (.lst xs) ∧ 0 ≤ k ∧ ixN xs.length k = some j ∧ xs[j]? = some v ∧ Q v H
theorem get_list {X : Cx} : PGet X rGetL := by
  intro pins s σ H o i ov iv Q I ro ri h
  obtain ⟨p, xs, k, j, v, rfl, rfl, hp, h0, hj, hv, q⟩ := h
  cases ro
  obtain ⟨t, rfl⟩ := ri
  obtain ⟨its, n, r, ho, hz⟩ := I.lst hp
  obtain ⟨h1, h2, h3, h4⟩ := ixN_seq hj
  have hn := line63
  rw [seqIndex_of h0 h4] at h1
  have hkj : k.toNat = j := Option.some.inj h1
  obtain ⟨w, ew, rw'⟩ := r.get hv
  exact PySem.wpAny_getItem_list (items := its.toArray) ⟨_, ho, rfl, n, rfl⟩ h0 (by omega) (by rw [hkj]; simpa using ew) ⟨v, H, I, rw', q⟩
section
variable {K : PySem.W.Frag} {G H G1 H1 : Hp} {m m1 m2 mn : List Ty} {σ : St} {e : En} {A A1 : List Addr} {t : Ty} {ts : List Ty} {M : Mk}
theorem DS.augS {tv to ti : TE} {g gi gv : Gq} {pt : Pf} (hp : DPl K m to (.l .s) g pt) (hi : DQv K m ti gi) (hv : DQv K m tv gv) (pn : ∀ {σ : St}, Pin M.po σ σ) : DS K M m (tAugS to ti tv rGetL (ipI fun i j => i + j) rSetL) (sAugS g pt gi gv) m := by
  intro G H σ e A o e' D st hf k
  obtain ⟨dl, h1, hf⟩ := Option.bind_eq_some_iff.mp hf
  obtain ⟨di, h2, hf⟩ := Option.bind_eq_some_iff.mp hf
  obtain ⟨dv, h3, hf⟩ := Option.bind_eq_some_iff.mp hf
  obtain ⟨dn, hg1, hz⟩ := Option.bind_eq_some_iff.mp hf
  cases hz
  obtain ⟨a, Ad, Ar, hp1, o1, ev, back⟩ := hp st h1
  have o1' := o1
  cases o1 with
  | @l _ _ vs ds Ai ga ha hz oi =>
    cases di with
    | int i =>
      cases dv with
      | int y =>
        obtain ⟨j, hj, hf⟩ := Option.bind_eq_some_iff.mp hg1
        cases hd : ds[j]? with
        | none => rw [hd] at hf; cases hf
        | some dx =>
          rw [hd] at hf
          cases dx with
          | int x =>
            replace hf : (if 0 ≤ i then some (PyData.list (ds.set j (PyData.int (x + y)))) else none) = some dn := hf
            have hc : 0 ≤ i := by
              by_cases hc : 0 ≤ i
              · exact hc
              · rw [if_neg hc] at hf; cases hf
            rw [if_pos hc] at hf
            cases hf
            have len : vs.length = ds.length := by have := (ownA_len oi).2; simpa using this
            have hjl : j < ds.length := (ixN_seq hj).2.1
            obtain ⟨hA, qi⟩ := of_ownA oi
            subst hA
            obtain ⟨v, hv1, qv⟩ := qi.get hd
            obtain rfl := dq_int qv
            refine ev fun H2 sH2 => hi (stt_grow st sH2).2 h2 fun H3 w sH3 qy => ?_
            cases qy
            have s13 := sH2.trans sH3
            refine ⟨a, vs, i, j, .int x, rfl, rfl, s13 _ _ ha, hc, by rw [len]; exact hj, hv1, ?_⟩
            refine hv (stt_grow st s13).2 h3 fun H4 u sH4 qu => ?_
            cases qu
            have s14 := s13.trans sH4
            refine ⟨x, y, rfl, rfl, ?_⟩
            refine ⟨a, vs, i, j, rfl, rfl, s14 _ _ ha, by rw [len]; exact hj, ?_⟩
            have nd := hp1.nodup_iff.mp st.nd
            have n := List.nodup_append.mp nd
            have n1 := List.nodup_cons.mp n.1
            obtain ⟨A2, o2, A0, Aj, p2, pj⟩ := own_set (n := 0) (H3 := upd H4 a (.lst (vs.set j (.int (x + y))))) (Av := []) oi (repl_get hjl) (.s (.int (x + y))) (fun b hb => by cases hb) (fun b hb => by cases hb)
            have hA2 : A2 = [] := by
              have q1 := pj.length_eq
              have q2 := p2.length_eq
              simp at q1 q2
              exact List.length_eq_zero_iff.mp (by omega)
            subst hA2
            obtain ⟨A', s4, st4⟩ := pl_wrote2 (Av := []) (u := .lst (vs.set j (.int (x + y)))) (Ad' := [a]) (Step.refl) st (.s (.int (x + y)) : Own K G H .s (.int (x + y)) (some (.int (x + y))) []) st.nd hp1 o1' back s14 (List.mem_cons_self ..) (.l ga upd_same (by rw [List.length_set]; exact hz) (by rw [List.length_set]; exact o2)) (fun b hb => .inr hb) (by simp)
            exact k G _ σ A' s4 st4 pn
          | _ => cases hf
      | _ => cases hf
    | _ => cases hf
end
section
variable {ι : Type} {Xf : ι → Cx} {P : Program} {w : World} {K : PySem.W.Frag} {mg : Str → Option Value} {base : Heap} {n : Nat} [F : Fam Xf P w K mg base n]
variable {M : Mk} {m m1 m2 mn ml : List Ty} {pos p p2 spos apos cpos : Pos} {a b c v o i : Expr} {f : Ef} {g gi gv : Gq} {pt : Pf} {t ty : Ty} {ts : List Ty}
include F in
theorem ds_augS (hp : PPl Xf K m o (.l .s) g pt) (hi : PQ Xf K m i gi) (hv : PQ Xf K m v gv)
    (ha : ∀ ov iv new, augStore i ov iv new = (do holding [new, ov, iv] (setItem ov iv new); release [new, ov, iv] []; pure .next) := by intros; rfl) : PSd Xf K M m (.AugAssign (.Subscript o i pos) .Add v spos) (sAugS g pt gi gv) m := by
  obtain ⟨ta, pa, da⟩ := hp.ex
  obtain ⟨tb, pb, db⟩ := hi.ex
  obtain ⟨tv, pv, dv⟩ := hv.ex
  exact ⟨_, fun z => ps_augS (pa z) (pb z) get_list (pv z) ip_add set_list ha, DS.augS da db dv Pin.refl⟩
theorem d2_mulI : D2 K (rI CMul fun i j => .int (i * j)) .s gMulI := fun {m G H σ e A x y dx dy d Q} st hx hy ee k => by
  unfold gMulI at ee
  split at ee
  · obtain ⟨hc, e1⟩ := ite_some2 ee
    cases e1
    obtain rfl := dq_int hx
    obtain rfl := dq_int hy
    exact ⟨_, _, rfl, rfl, (by
      unfold mulOk at hc
      rcases (Bool.or_eq_true _ _).mp hc with h | h
      · have := of_decide_eq_true h; exact .inl (by omega)
      · have := of_decide_eq_true h; exact .inr (by omega)), ans_s st (.int _) k⟩
  · cases ee
include F in
theorem ds_augMul (j : Nat) {x : Str} {pos' : Pos} {m1 : List Ty} (he : PD Xf K m v .s f m1) (hm : m[j]? = some .s := by rfl) (hm1 : m1[j]? = some .s := by rfl) (hp : j ∉ M.po := by decide)
    (hi : ∀ i, (Xf i).N[j]? = some x := by intro _; rfl) (hx : ∀ i, Loc (Xf i).env.scope x := by first | (intro _; exact Or.inl rfl) | (intro _; exact Or.inr rfl)) (hf : ∀ i, (Xf i).fn x = true ∨ (Xf i).env.scope.names.lookup x = some .local := by first | (intro _; exact Or.inl rfl) | (intro _; exact Or.inr rfl)) :
    PSd Xf K M m (.AugAssign (.Name x pos') .Mult v spos) (sAug j gMulI f) (m1.set j .s) := ds_aug j (fun _ => iop_mul) d2_mulI he hm hm1 hp hi hx hf
end
theorem nrt_augS {gq gi gv : Gq} {pt : En → PyData → En} : NoRt (sAugS gq pt gi gv) := fun e d e' h => by
  obtain ⟨q, _, h⟩ := Option.bind_eq_some_iff.mp h
  obtain ⟨i, _, h⟩ := Option.bind_eq_some_iff.mp h
  obtain ⟨v, _, h⟩ := Option.bind_eq_some_iff.mp h
  obtain ⟨j, _, h⟩ := Option.bind_eq_some_iff.mp h
  cases h
end DL

/-! d.update({x: True for x in e}) -/
namespace DL
open PySem L2 PySem.Spec
def joinK (more kvs : List (Key × V)) : List (Key × V) := more.foldl (fun acc p => putK acc p.1 p.2) kvs
theorem kv_join : ∀ {more : List (Key × V)} {ws : List (Key × Value)}, KV more ws → ∀ {kvs : List (Key × V)} {vs : List (Key × Value)}, KV kvs vs → KV (joinK more kvs) (merged vs ws)
  | _, _, .nil, _, _, r => r
  | p :: more, q :: ws, .cons h t, kvs, vs, r => by
    have r2 := r.put p.1 h.2
    rw [show stored vs p.1 q.2 = stored vs q.1 q.2 by rw [h.1]] at r2
    exact kv_join t r2
theorem join_len : ∀ (more kvs : List (Key × V)), (joinK more kvs).length ≤ kvs.length + more.length
  | [], kvs => Nat.le_refl _
  | p :: more, kvs => by
    have h1 := join_len more (putK kvs p.1 p.2)
    have h2 := length_putK kvs p.1 p.2
    show (joinK more (putK kvs p.1 p.2)).length ≤ _
    rw [List.length_cons]; omega
def rUpd : V → List V → Hp → VK → Prop := fun x xs H Q => ∃ (a b : Addr) (kvs more : List (Key × V)), x = .ref a ∧ xs = [.ref b] ∧ a ≠ b ∧ H a = some (.dK kvs) ∧ H b = some (.dK more) ∧ kvs.length + more.length ≤ sizeLine ∧ Q .non (upd H a (.dK (joinK more kvs)))
theorem mt_update {X : Cx} : MtR X "dict.update" rUpd := by
  intro pins s σ H x xs v us Q I rx rxs h
  obtain ⟨a, b, kvs, more, rfl, rfl, hab, ha, hb, hl, q⟩ := h
  cases rx
  obtain rfl : us = [Value.ref b] := by
    cases rxs with
    | cons r1 r2 =>
      cases r2
      cases r1
      rfl
  obtain ⟨z1, y1, vs, r1, d1⟩ := dk_of I.hok ha
  obtain ⟨z2, y2, ws, r2, d2⟩ := dk_of I.hok hb
  have l1 := Paired.length r1
  have l2 := Paired.length r2
  refine call_meetsIn F.slot_dict_update d1.typeIs F.entry_dict_update (F.args_dict_update_2 _ _) (meets_dict_update (mixKind X.prog X.w) a b hab y2) ⟨vs, ws, d1, d2, by omega, fun h' e1 e2 hs => ?_⟩
  have he : ∃ q, h'.get? a = some q := let ⟨q, _, _, hq, _⟩ := e1; ⟨q, hq⟩
  exact ⟨.non, _, d_write (t' := s.toks) I (by rw [ha]; exact True.intro) hs he (dk_new (by have := join_len more kvs; omega) y1 (kv_join r2 r1) e1), rfl, q⟩
/-! the data's side -/
def joinI {α : Type} (more kvs : List (Int × α)) : List (Int × α) := more.foldl (fun acc p => putI acc p.1 p.2) kvs
def yesI {α : Type} (is : List Int) (t : α) : List (Int × α) := is.foldl (fun acc i => putI acc i t) []
def dictI : List (PyData × PyData) → Option (List (Int × PyData))
  | [] => some []
  | (.int i, d) :: r => (dictI r).map ((i, d) :: ·)
  | _ :: _ => none
/-- d.update({x: True for x in s}) -/
def gUpdT (d s : PyData) : Option PyData := match d, s with
  | .dict kvs, .tuple xs => (dictI kvs).bind fun ds => (intsOf xs).bind fun is => if kvs.length + is.length < 100000 then some (.dict ((joinI (yesI is (.bool true)) ds).map kvD)) else none
  | _, _ => none
def eUpdT (j : Nat) (f : Ef) : Ef := fun e => (f e).bind fun p => (gUpdT (p.2.getD j .none) p.1).bind fun d => some (.none, p.2.set j d)
theorem dictI_map : ∀ ds : List (Int × PyData), dictI (ds.map kvD) = some ds
  | [] => rfl
  | p :: ds => by
    show (dictI (ds.map kvD)).map _ = _
    rw [dictI_map ds]; rfl
theorem intsOf_map {xs : List PyData} {is : List Int} (h : intsOf xs = some is) : xs = is.map .int := by
  induction xs generalizing is with
  | nil => cases h; rfl
  | cons x xs ih =>
    cases x with
    | int i =>
      obtain ⟨js, h1, h2⟩ := Option.map_eq_some_iff.mp (show (intsOf xs).map (i :: ·) = some is from h)
      cases h2
      rw [ih h1]; rfl
    | _ => cases h
theorem yes_len {α : Type} (t : α) : ∀ (is : List Int) (acc : List (Int × α)), (is.foldl (fun acc i => putI acc i t) acc).length ≤ acc.length + is.length
  | [], acc => Nat.le_refl _
  | i :: is, acc => by
    have h1 := yes_len t is (putI acc i t)
    have h2 := putI_len acc i t
    rw [List.foldl_cons, List.length_cons]; omega
theorem yesI_len {α : Type} (t : α) (is : List Int) : (yesI is t).length ≤ is.length := by
  have := yes_len t is []
  rw [List.length_nil, Nat.zero_add] at this
  exact this
theorem joinI_len {α : Type} : ∀ (more kvs : List (Int × α)), (joinI more kvs).length ≤ kvs.length + more.length
  | [], kvs => Nat.le_refl _
  | p :: more, kvs => by
    have h1 := joinI_len more (putI kvs p.1 p.2)
    have h2 := putI_len kvs p.1 p.2
    show (joinI more (putI kvs p.1 p.2)).length ≤ _
    rw [List.length_cons]; omega
theorem joinK_map : ∀ (more kvs : List (Int × V)), joinK (more.map kvV) (kvs.map kvV) = (joinI more kvs).map kvV
  | [], kvs => rfl
  | p :: more, kvs => by
    show joinK (more.map kvV) (putK (kvs.map kvV) (Sum.inl p.1) p.2) = _
    rw [putK_map, joinK_map more]; rfl
theorem sqT_upd {K : PySem.W.Frag} {H : Hp} {a D : Addr} {xs : List V} {o : HO} (h : SqT K H a xs) (hD : H D = none) : SqT K (upd H D o) a xs := by
  rcases h with (h | ⟨u, h⟩) | h
  · exact .inl (.inl (by rw [upd_ne (ne_of_none h hD)]; exact h))
  · exact .inl (.inr ⟨u, by rw [upd_ne (ne_of_none h hD)]; exact h⟩)
  · exact .inr h
section
variable {K : PySem.W.Frag} {G H G1 H1 : Hp} {m m1 m2 mn : List Ty} {σ : St} {e : En} {A A1 : List Addr} {t : Ty} {ts : List Ty}
theorem yes_rel : ∀ (is : List Int) (kvs : List (Int × V)) (ds : List (Int × PyData)), kvs.map (·.1) = ds.map (·.1) → DqA K G (kvs.map (·.2)) (ds.map (·.2)) →
    (is.foldl (fun acc i => putI acc i (V.bl true)) kvs).map (·.1) = (is.foldl (fun acc i => putI acc i (PyData.bool true)) ds).map (·.1) ∧ DqA K G ((is.foldl (fun acc i => putI acc i (V.bl true)) kvs).map (·.2)) ((is.foldl (fun acc i => putI acc i (PyData.bool true)) ds).map (·.2))
  | [], _, _, h, r => ⟨h, r⟩
  | i :: is, kvs, ds, h, r => yes_rel is _ _ (putI_keys h i _ _) (put_rel i (.bl true) h r)
theorem join_rel : ∀ (mv : List (Int × V)) (md : List (Int × PyData)), mv.map (·.1) = md.map (·.1) → DqA K G (mv.map (·.2)) (md.map (·.2)) → ∀ (kvs : List (Int × V)) (ds : List (Int × PyData)), kvs.map (·.1) = ds.map (·.1) → DqA K G (kvs.map (·.2)) (ds.map (·.2)) →
    (joinI mv kvs).map (·.1) = (joinI md ds).map (·.1) ∧ DqA K G ((joinI mv kvs).map (·.2)) ((joinI md ds).map (·.2))
  | [], [], _, _, _, _, h, r => ⟨h, r⟩
  | [], _ :: _, h, _, _, _, _, _ => by simp at h
  | _ :: _, [], h, _, _, _, _, _ => by simp at h
  | p :: mv, q :: md, h, r, kvs, ds, h2, r2 => by
    simp only [List.map_cons, List.cons.injEq] at h
    rw [List.map_cons, List.map_cons] at r
    have a := putI_keys h2 q.1 p.2 q.2
    have b := put_rel q.1 r.head h2 r2
    have := join_rel mv md h.2 r.tail _ _ a b
    unfold joinI at this ⊢
    rw [List.foldl_cons, List.foldl_cons, h.1]
    exact this
theorem dqA_intsV {xs : List V} : ∀ {is : List Int}, DqA K G xs (is.map .int) → xs = is.map V.int := fun {is} h => by
  apply List.ext_getElem (by rw [h.1, List.length_map, List.length_map])
  intro i h1 h2
  have h3 : i < is.length := by rw [List.length_map] at h2; exact h2
  have := h.2 i xs[i] (.int is[i]) (List.getElem?_eq_getElem h1) (by rw [List.getElem?_map, List.getElem?_eq_getElem h3]; rfl)
  rw [dq_int this, List.getElem_map]
theorem upd_again {H : Hp} {D : Addr} {o o' : HO} : upd (upd H D o) D o' = upd H D o' := by
  funext b
  by_cases h : b = D
  · subst h; rw [upd_same, upd_same]
  · rw [upd_ne h, upd_ne h, upd_ne h]
theorem DE.updT {te : TE} {f : Ef} {j jx : Nat} (h0 : m[j]? = some .d) (hj : jx < m1.length) (hi : DE K m te .s f m1) (hm : m1[j]? = some .d) :
    DE K m (tBM K "dict" rUpd (tVar j) (tCons (tDc (iTup K te) (gName jx) tYes (tVar jx) (tC (.bl true)) [jx]) tNil)) .s (eUpdT j f) m1 := by
  intro G H σ e A d e' Q st hf k
  obtain ⟨⟨dt, e1⟩, hf1, hf⟩ := Option.bind_eq_some_iff.mp hf
  obtain ⟨dn, hx, hf⟩ := Option.bind_eq_some_iff.mp hf
  cases hf
  obtain ⟨a0, kvs0, ds0, g2, _, _, ha0, _⟩ := slot_dict (Av := []) (Step.refl (A := A)) st.nd st h0
  refine ⟨.ref a0, g2, .inr (.inr (.inl ⟨rfl, .inl ⟨_, ha0⟩⟩)), ?_⟩
  refine hi st hf1 fun G1 H1 y A1 B1 s1 st1 o1 nd1 => ?_
  cases o1 with
  | s q1 =>
    obtain ⟨a, kvs, ds, h2, h1, ga, ha, hk, q, wr0⟩ := slot_dict s1 nd1 st1 hm
    rw [g2] at h2
    cases h2
    rw [show List.getD (dt, e1).2 j .none = .dict (ds.map kvD) from h1] at hx
    cases dt with
    | tuple xs0 =>
      obtain ⟨ds', hd1, hx⟩ := Option.bind_eq_some_iff.mp (show (dictI (ds.map kvD)).bind _ = _ from hx)
      rw [dictI_map] at hd1
      cases hd1
      obtain ⟨is, hd2, hx⟩ := Option.bind_eq_some_iff.mp hx
      obtain ⟨hlen, hx⟩ := ite_some2 hx
      cases hx
      obtain rfl := intsOf_map hd2
      obtain ⟨b, xs, rfl, r1, z1, qa⟩ := dq_tup q1
      obtain rfl := dqA_intsV qa
      have r1H : SqT K H1 b (is.map V.int) := same_seqT st1.sub r1
      refine ⟨b, rfl, ⟨_, r1H⟩, ?_⟩
      intro D hD
      have hlen2 : ds.length + is.length < 100000 := by rw [List.length_map] at hlen; exact hlen
      have line : 100000 ≤ sizeLine := by rw [sizeLine_eq]; omega
      refine dc_tup (xs := is.map V.int) (fun i H' => H' = upd H1 D (.dK ((yesI (is.take i) (V.bl true)).map kvV))) rfl (fun i H' _ e => by rw [e]; exact sqT_upd r1H hD) (fun i x H' hxi e => ?_) (fun H' e => ?_)
      · subst e
        rw [List.getElem?_map] at hxi
        obtain ⟨i0, hi0, rfl⟩ := Option.map_eq_some_iff.mp hxi
        have hil := (List.getElem?_eq_some_iff.mp hi0).1
        refine ⟨?_, ?_⟩
        · show ((wipe σ [jx]).set jx (some (V.int i0))).set jx none = (σ.set jx none)
          show (((σ.set jx none).set jx (some (V.int i0))).set jx none) = _
          rw [List.set_set, List.set_set]
        · unfold tYes
          dsimp only
          rw [if_pos rfl]
          have sl : jx < σ.length := by
            have := ownA_len st1.own
            omega
          refine ⟨V.int i0, ?_, (yesI (is.take i) (V.bl true)).map kvV, Sum.inl i0, rfl, upd_same, ?_, ?_⟩
          · show ((σ.set jx none).set jx (some (V.int i0)))[jx]? = _
            rw [List.getElem?_set_self (by rw [List.length_set]; exact sl)]
          · rw [List.length_map]
            have := yesI_len (V.bl true) (is.take i)
            rw [List.length_take] at this
            omega
          · show upd (upd H1 D _) D _ = upd H1 D _
            rw [upd_again, putK_map, List.take_add_one, hi0]
            show upd H1 D (.dK ((putI (yesI (is.take i) (V.bl true)) i0 (V.bl true)).map kvV)) = upd H1 D (.dK ((yesI (is.take i ++ [i0]) (V.bl true)).map kvV))
            unfold yesI
            rw [List.foldl_append]; rfl
      · have e : H' = upd H1 D (.dK ((yesI is (V.bl true)).map kvV)) := by
          rw [e, List.length_map, List.take_length]
        subst e
        have hne : a0 ≠ D := ne_of_none ha hD
        have y2 := yesI_len (V.bl true) is
        have lk : kvs.length = ds.length := by have := congrArg List.length hk; simpa using this
        obtain ⟨sD, stD, ndD, gD⟩ := new_o (o := .dK ((yesI is (V.bl true)).map kvV)) (B := []) st1 hD
        obtain ⟨a', kvs', ds', h2', h1', ga', ha', hk', q', wr⟩ := slot_dict (Av := [D]) (A1 := B1) (s1.seq0 sD) ndD stD hm
        rw [g2] at h2'
        cases h2'
        obtain ⟨yk, yr⟩ := yes_rel (K := K) (G := G1) is [] [] rfl DqA.nil
        obtain ⟨jk, jr⟩ := join_rel (yesI is (V.bl true)) (yesI is (PyData.bool true)) yk yr kvs ds hk q
        have jl := joinI_len (yesI is (V.bl true)) kvs
        obtain ⟨A2, sF, stF⟩ := wr (joinI (yesI is (V.bl true)) kvs) (joinI (yesI is (PyData.bool true)) ds) jk jr (by omega)
        refine ⟨a0, D, kvs.map kvV, (yesI is (V.bl true)).map kvV, rfl, rfl, hne, by rw [upd_ne hne]; exact ha, upd_same, by rw [List.length_map, List.length_map]; omega, ?_⟩
        rw [joinK_map]
        exact k G1 _ .non [] A2 sF stF (.s .non) stF.nd
    | _ => cases hx
end
section
variable {ι : Type} {Xf : ι → Cx} {P : Program} {w : World} {K : PySem.W.Frag} {mg : Str → Option Value} {base : Heap} {n : Nat} [F : Fam Xf P w K mg base n]
variable {m m1 m2 m3 : List Ty} {pos p p2 apos cpos xp kp vp tp : Pos} {a b c e : Expr} {f g h : Ef} {scope : Scope} {jn : Option String}
include F in
theorem pd_updT [FG : FamG Xf] (j jx : Nat) {x k : Str} {jn} (hi : PD Xf K m e .s f m1) (h0 : m[j]? = some .d := by rfl) (hm : m1[j]? = some .d := by rfl) (hj : jx < m1.length := by decide) (hN : ∀ i, (Xf i).N[j]? = some x := by intro _; rfl)
    (hv : ∀ i, Vis (Xf i).env.scope x := by first | (intro _; exact Or.inl rfl) | (intro _; exact Or.inr (Or.inl rfl)) | (intro _; exact Or.inr (Or.inr rfl))) (hd : (x == ("__debug__" : Str)) = false := by decide) (hcd : (x == ("__classdict__" : Str)) = false := by decide)
    (own : List (Str × Nat)) (ho : own.map (·.2) = [jx] := by rfl) (ok : ∀ i, BlkOk (Xf i).N (Xf i).env.scope scope own := by intro _; exact blkOk_by (by rfl))
    (hkN : ∀ i, (blkF Xf scope i).N[jx]? = some k := by intro _; rfl) (hkL : ∀ i, Loc (blkF Xf scope i).env.scope k := by first | (intro _; exact Or.inl rfl) | (intro _; exact Or.inr rfl))
    (hkV : ∀ i, Vis (blkF Xf scope i).env.scope k := by first | (intro _; exact Or.inl rfl) | (intro _; exact Or.inr (Or.inl rfl)) | (intro _; exact Or.inr (Or.inr rfl)))
    (hkF : ∀ i, (blkF Xf scope i).fn k = true ∨ (blkF Xf scope i).env.scope.names.lookup k = some .local := by first | (intro _; exact Or.inl rfl) | (intro _; exact Or.inr rfl))
    (hkd : (k == ("__debug__" : Str)) = false := by decide) (hkcd : (k == ("__classdict__" : Str)) = false := by decide)
    (hf : ∀ i x, foldedSetIterable e (Xf i).env x = pure x := by intro _ _; rfl)
    (hbase : ∀ i, attributeBase (.Name x xp) "update" (Xf i).env (eval (.Name x xp) (Xf i).env) = eval (.Name x xp) (Xf i).env := by intro _; rfl)
    (hfew : ∀ i, ((backTo cpos (starEach [.DictComp (.Name k kp) (.Constant (.bool true) jn vp) [⟨.Name k tp, e, [], 0⟩] scope pos] (Xf i).env)).all (fun x => !x.1) && (backToKw cpos (keywordEach [] (Xf i).env)).all (fun x => x.1.isSome)
      && decide (([.DictComp (.Name k kp) (.Constant (.bool true) jn vp) [⟨.Name k tp, e, [], 0⟩] scope pos] : List Expr).length + ([] : List Keyword).length + (if ([] : List Keyword).isEmpty then 0 else 1) < 30)) = true := by intro _; rfl)
    (hline : (apos.endLine == cpos.line) = true := by rfl) (hs : ∀ i, starEach [.DictComp (.Name k kp) (.Constant (.bool true) jn vp) [⟨.Name k tp, e, [], 0⟩] scope pos] (Xf i).env = (false, eval (.DictComp (.Name k kp) (.Constant (.bool true) jn vp) [⟨.Name k tp, e, [], 0⟩] scope pos) (Xf i).env) :: starEach [] (Xf i).env := by intro _; rfl) (hplain : ∀ i, (backTo cpos (starEach [] (Xf i).env)).any (·.1) = false := by intro _; rfl) :
    PD Xf K m (.Call (.Attribute (.Name x xp) "update" apos) [.DictComp (.Name k kp) (.Constant (.bool true) jn vp) [⟨.Name k tp, e, [], 0⟩] scope pos] [] cpos) .s (eUpdT j f) m1 := by
  obtain ⟨te, pe, de⟩ := hi.ex
  refine ⟨_, fun i => ?_, DE.updT h0 hj de hm⟩
  have dc := pe_dc (kx := .Name k kp) (vx := .Constant (.bool true) jn vp) (pos := pos) (FG.calm i) (F.nd i) (pi_tup (tg := .Name k tp) (pe i)) (ok i)
    (fun s H C cl fp => pg_name ((inferInstance : Fam (blkF Xf scope) P w K mg base n).nd ⟨i, s, H, C, cl, fp⟩) (hkN ⟨i, s, H, C, cl, fp⟩) (hkL ⟨i, s, H, C, cl, fp⟩) (hkF ⟨i, s, H, C, cl, fp⟩)) (fun s H C cl fp => pts_nil)
    (fun s H C cl fp => pe_var (hkN ⟨i, s, H, C, cl, fp⟩) (hkV ⟨i, s, H, C, cl, fp⟩) hkd hkcd) (fun s H C cl fp => pe_bl) (hf i)
  have := pe_bm PySem.F.plainAttrs_dict PySem.F.slot_dict_update PySem.F.type_dict_update (mt_update (X := Xf i)) (pe_var (hN i) (hv i) hd hcd) (pa_cons dc pa_nil (hs i)) (hbase i) (hfew i) hline (hs i) (hplain i)
  rw [F.kk i, ho] at this
  exact this
end
end DL

namespace DL
open PySem L2 PySem.Spec
section
variable {K : PySem.W.Frag} {m m1 : List Ty} {M : Mk} {lf : Lf}
/-- a, b = x, y where a name is read by a comprehension: the pair is made, then taken apart -/
theorem DS.parC {ta : TA} {i j : Nat} {t1 t2 : Ty} (ha : DA K m ta [t1, t2] lf m1) (hi : i < m1.length) (hj : j < m1.length) (pi : i ∉ M.po) (pj : j ∉ M.po) : DS K M m (tAsg (fun σ H Q => ta σ H fun vs H1 => vs.length ≤ sizeLine ∧ NewT H1 vs Q) (gTup K 2 (gCons (gName i) (gCons (gName j) gNil)))) (sPar i j lf) ((m1.set i t1).set j t2) := by
  intro G H σ e A o e' D st hf k
  obtain ⟨⟨ds, e1⟩, hf1, hf⟩ := Option.bind_eq_some_iff.mp hf
  refine ha st hf1 fun G1 H1 vs Av A1 s1 st1 o1 nd1 => ?_
  match vs, ds, hf, o1 with
  | [v, w], [x, y], hf, o1 =>
    cases hf
    refine ⟨by rw [sizeLine_eq]; show 2 ≤ _; omega, fun p oo hc hdn hp => ?_⟩
    obtain ⟨_, st1, _, gp⟩ := new_o (o := .frz oo (.tup [v, w])) (B := []) st1 hp
    have s1 : Step A G H (Av ++ A1) G1 (upd H1 p (.frz oo (.tup [v, w]))) := ⟨s1.sg, fun a u h ha => by rw [upd_ne (ne_of_none (s1.fr a u h ha) hp)]; exact s1.fr a u h ha, s1.own, s1.gnew⟩
    have o1 := ownA_fr (H' := upd H1 p (.frz oo (.tup [v, w]))) o1 (Same.refl G1) (fun a ha => (ownA_at o1 a ha).1) fun a ha => by
      obtain ⟨_, u, hu⟩ := ownA_at o1 a ha
      exact upd_ne (ne_of_none hu hp)
    refine ⟨p, [v, w], rfl, .inl (.inr ⟨oo, upd_same⟩), rfl, ?_⟩
    cases o1 with
    | @cons _ _ _ _ _ _ A2 A3 p1 p2 =>
      cases p2 with
      | @cons _ _ _ _ _ _ A4 A5 p3 p4 =>
        cases p4
        rw [List.append_nil] at nd1 s1
        have n1 := List.nodup_append.mp nd1
        have n2 := List.nodup_append.mp n1.1
        obtain ⟨B2, st2, hB2⟩ := stt_set st1 hi p1 (List.nodup_append.mpr ⟨n2.1, n1.2.1, fun a ha b hb z => n1.2.2 a (List.mem_append_left _ ha) b hb z⟩)
        obtain ⟨B3, st3, hB3⟩ := stt_set st2 (by rw [List.length_set]; exact hj) p3 (List.nodup_append.mpr ⟨n2.2.1, st2.nd, fun a ha b hb z => by
          rcases List.mem_append.mp (hB2 b hb) with q | q
          · exact n2.2.2 b q a ha z.symm
          · exact n1.2.2 a (List.mem_append_right _ ha) b q z⟩)
        refine ⟨v, [w], rfl, w, [], rfl, rfl, k G1 _ _ B3 (s1.less fun a h => ?_) st3 ((Pin.set pi).trans (Pin.set pj))⟩
        rcases List.mem_append.mp (hB3 a h) with q | q
        · exact List.mem_append_left _ (List.mem_append_right _ q)
        · rcases List.mem_append.mp (hB2 a q) with q | q
          · exact List.mem_append_left _ (List.mem_append_left _ q)
          · exact List.mem_append_right _ q
  | [_], _, _, o1 => cases o1 with | cons _ p => cases p
  | [], _, _, o1 => cases o1
  | _ :: _ :: _ :: _, _, _, o1 => cases o1 with | cons _ p => cases p with | cons _ p => cases p
end
section
variable {ι : Type} {Xf : ι → Cx} {P : Program} {w : World} {K : PySem.W.Frag} {mg : Str → Option Value} {base : Heap} {n : Nat} [F : Fam Xf P w K mg base n]
variable {M : Mk} {m m1 m2 : List Ty} {pos p p2 apos cpos xp : Pos} {a b c : Expr} {f g h : Ef} {lf : Lf} {t1 t2 : Ty}
include F in
theorem ds_parC [FG : FamG Xf] (i j : Nat) {L : List (Option Nat)} {x y : Str} {px py pt pt2 : Pos} {kt k2} (ha : PAL Xf K m [a, b] [t1, t2] L lf m1) (hi : i < m1.length := by decide) (hj : j < m1.length := by decide) (pi : i ∉ M.po := by decide) (pj : j ∉ M.po := by decide)
    (ni : ∀ z, (Xf z).N[i]? = some x := by intro _; rfl) (nj : ∀ z, (Xf z).N[j]? = some y := by intro _; rfl) (hx : ∀ z, Loc (Xf z).env.scope x := by first | (intro _; exact Or.inl rfl) | (intro _; exact Or.inr rfl)) (hy : ∀ z, Loc (Xf z).env.scope y := by first | (intro _; exact Or.inl rfl) | (intro _; exact Or.inr rfl))
    (fx : ∀ z, (Xf z).fn x = true ∨ (Xf z).env.scope.names.lookup x = some .local := by first | (intro _; exact Or.inl rfl) | (intro _; exact Or.inr rfl)) (fy : ∀ z, (Xf z).fn y = true ∨ (Xf z).env.scope.names.lookup y = some .local := by first | (intro _; exact Or.inl rfl) | (intro _; exact Or.inr rfl))
    (hs : ∀ z, swapsWithSole [.Tuple [.Name x px, .Name y py] kt pt] (.Tuple [a, b] k2 pt2) pos.line (Xf z).env = pure false := by intro _; rfl) (hw : ∀ z, swappedStores [.Tuple [.Name x px, .Name y py] kt pt] (.Tuple [a, b] k2 pt2) (Xf z).env = pure none := by intro _; rfl)
    (h1 : ∀ z, (assignEach [.Tuple [.Name x px, .Name y py] kt pt] (Xf z).env).map (·.2) = [assign (.Tuple [.Name x px, .Name y py] kt pt) (Xf z).env] := by intro _; rfl)
    (hpg : ∀ z {t : TGs}, PGs (Xf z) [.Name x px, .Name y py] t → PG (Xf z) (.Tuple [.Name x px, .Name y py] kt pt) (gTup (Xf z).K 2 t) := by intro z t h; exact pg_tup (FamG.calm z) h)
    (hps : ∀ z {t u : TG}, PG (Xf z) (.Name x px) t → PG (Xf z) (.Name y py) u → PGs (Xf z) [.Name x px, .Name y py] (gCons t (gCons u gNil)) := by intro z t u h h2; exact pgs_cons h (pgs_cons h2 pgs_nil)) :
    PSd Xf K M m (.Assign [.Tuple [.Name x px, .Name y py] kt pt] (.Tuple [a, b] k2 pt2) pos) (sPar i j lf) ((m1.set i t1).set j t2) := by
  obtain ⟨t, p, d⟩ := ha.ex
  refine ⟨_, fun z => ?_, DS.parC (fun st hf k => d st hf fun G' H' vs Av A' s st' o nd _ => k G' H' vs Av A' s st' o nd) hi hj pi pj⟩
  have := hpg z (hps z (pg_name (F.nd z) (ni z) (hx z) (fx z)) (pg_name (F.nd z) (nj z) (hy z) (fy z)))
  rw [F.kk z] at this
  exact ps_asg (pe_tupN (p z)) this (hs z) (hw z) (h1 z)
end
def eExtV (j l : Nat) : Ef := fun e => (gExt (e.getD j .none) (e.getD l .none)).bind fun d => some (.none, e.set j d)
section
variable {K : PySem.W.Frag} {m : List Ty}
theorem DE.extV {j l : Nat} (hm : m[j]? = some (.l .s)) (hl : m[l]? = some (.l .s)) : DE K m (tBM K "list" rExtend (tVar j) (tCons (tVar l) tNil)) .s (eExtV j l) m := by
  intro G H σ e A d e' Q st hf k
  obtain ⟨x, hf2, hf⟩ := Option.bind_eq_some_iff.mp hf
  cases hf
  obtain ⟨a, vs, ds, h2, h1, ga, ha, hz, q, wr⟩ := slot_list (Av := []) (Step.refl (A := A)) st.nd st hm
  obtain ⟨b, ws, es, g2, g1, gb, hb, gz, qw, _⟩ := slot_list (Av := []) (Step.refl (A := A)) st.nd st hl
  refine ⟨.ref a, h2, .inl ⟨rfl, _, .inl (.inl ha)⟩, .ref b, g2, ?_⟩
  rw [h1, g1] at hf2
  obtain ⟨hr, hf2⟩ := ite_some hf2
  cases hf2
  have l1 := q.1
  have l2 := qw.1
  obtain ⟨A2, s3, st3⟩ := wr (vs ++ ws) _ (q.append qw) (by rw [List.length_append]; omega)
  exact ⟨a, b, vs, ws, rfl, rfl, ha, hb, by omega, k G _ .non [] A2 s3 st3 (.s .non) st3.nd⟩
end
section
variable {ι : Type} {Xf : ι → Cx} {P : Program} {w : World} {K : PySem.W.Frag} {mg : Str → Option Value} {base : Heap} {n : Nat} [F : Fam Xf P w K mg base n]
variable {m m1 : List Ty} {pos p p2 apos cpos xp yp : Pos}
include F in
theorem pd_extV (j l : Nat) {x y : Str} (hm : m[j]? = some (.l .s) := by rfl) (hm1 : m[l]? = some (.l .s) := by rfl) (hN : ∀ i, (Xf i).N[j]? = some x := by intro _; rfl) (hN2 : ∀ i, (Xf i).N[l]? = some y := by intro _; rfl)
    (hv : ∀ i, Vis (Xf i).env.scope x := by first | (intro _; exact Or.inl rfl) | (intro _; exact Or.inr (Or.inl rfl)) | (intro _; exact Or.inr (Or.inr rfl))) (hd : (x == ("__debug__" : Str)) = false := by decide) (hcd : (x == ("__classdict__" : Str)) = false := by decide)
    (hv2 : ∀ i, Vis (Xf i).env.scope y := by first | (intro _; exact Or.inl rfl) | (intro _; exact Or.inr (Or.inl rfl)) | (intro _; exact Or.inr (Or.inr rfl))) (hd2 : (y == ("__debug__" : Str)) = false := by decide) (hcd2 : (y == ("__classdict__" : Str)) = false := by decide)
    (hbase : ∀ i, attributeBase (.Name x xp) "extend" (Xf i).env (eval (.Name x xp) (Xf i).env) = eval (.Name x xp) (Xf i).env := by intro _; rfl)
    (hfew : ∀ i, ((backTo cpos (starEach [.Name y yp] (Xf i).env)).all (fun x => !x.1) && (backToKw cpos (keywordEach [] (Xf i).env)).all (fun x => x.1.isSome)
      && decide (([.Name y yp] : List Expr).length + ([] : List Keyword).length + (if ([] : List Keyword).isEmpty then 0 else 1) < 30)) = true := by intro _; rfl)
    (hline : (apos.endLine == cpos.line) = true := by rfl) (hs : ∀ i, starEach [.Name y yp] (Xf i).env = (false, eval (.Name y yp) (Xf i).env) :: starEach [] (Xf i).env := by intro _; rfl) (hplain : ∀ i, (backTo cpos (starEach [] (Xf i).env)).any (·.1) = false := by intro _; rfl) :
    PD Xf K m (.Call (.Attribute (.Name x xp) "extend" apos) [.Name y yp] [] cpos) .s (eExtV j l) m :=
  ⟨_, fun i => by have := pe_bm PySem.F.plainAttrs_list PySem.F.slot_list_extend PySem.F.type_list_extend (mt_extend (X := Xf i)) (pe_var (hN i) (hv i) hd hcd) (pa_cons (pe_var (hN2 i) (hv2 i) hd2 hcd2) pa_nil (hs i)) (hbase i) (hfew i) hline (hs i) (hplain i); rw [F.kk i] at this; exact this, DE.extV hm hm1⟩
end
end DL

namespace DL
open PySem L2 PySem.Spec
@[simp] theorem rUnal {i j0 j1 : Nat} {e : En} : sUnal i j0 j1 e = (gHd2 (e.getD i .none)).bind fun q => some (.nx, (e.set j0 q.1).set j1 q.2) := rfl
@[simp] theorem rAl {j : Nat} {r : Lf} {e : En} : lAl j r e = (r e).bind fun p => some (p.2.getD j .none :: p.1, p.2) := rfl
end DL

namespace DL
open PySem L2 PySem.Spec
@[simp] theorem rDVals {j : Nat} {e : En} : eDVals j e = (gDVals (e.getD j .none)).bind fun d => some (d, e) := rfl
@[simp] theorem reThaw {f : Ef} {e : En} : eThaw f e = (f e).bind fun p => (grd (flat1 p.1)).bind fun _ => some p := rfl
@[simp] theorem rbTrue {e : En} : bTrue e = some (true, e) := rfl
section
variable {tb : CT} {j : Nat} {f : Ef} {fb fs : Sf} {e : En} {v : PyData}
@[simp] theorem rsAsgE : sAsgE tb j f e = (f e).bind fun p => (gIsOk tb p.1).bind fun w => (asB w).bind fun b => if b = true then (gUn p.1).bind fun d => some (.nx, p.2.set j d) else some (.rt p.1, p.2) := rfl
@[simp] theorem rsDropE : sDropE tb f e = (f e).bind fun p => (gIsOk tb p.1).bind fun w => (asB w).bind fun b => if b = true then some (.nx, p.2) else some (.rt p.1, p.2) := rfl
@[simp] theorem rsRetE : sRetE tb f e = (f e).bind fun p => (gIsOk tb p.1).bind fun _ => some (.rt p.1, p.2) := rfl
@[simp] theorem rsTryB : sTryB tb j fb fs e = (fb e).bind fun p => tryR tb j fs p := rfl
@[simp] theorem rsTryC : sTryC tb fb fs e = (fb e).bind fun p => tryR0 tb fs p := rfl
@[simp] theorem rTry1 : tryR tb j fs (.rt v, e) = (gIsOk tb v).bind fun w => (asB w).bind fun b => if b = true then (gUn v).bind fun d => some (.rt d, e) else fs (e.set j v) := rfl
@[simp] theorem rTry2 : tryR tb j fs (.nx, e) = some (.nx, e) := rfl
@[simp] theorem rTry3 : tryR tb j fs (.bk, e) = some (.bk, e) := rfl
@[simp] theorem rTry4 : tryR tb j fs (.ct, e) = some (.ct, e) := rfl
@[simp] theorem rTry5 : tryR0 tb fs (.rt v, e) = (gIsOk tb v).bind fun w => (asB w).bind fun b => if b = true then (gUn v).bind fun d => some (.rt d, e) else fs e := rfl
@[simp] theorem rTry6 : tryR0 tb fs (.nx, e) = some (.nx, e) := rfl
@[simp] theorem rTry7 : tryR0 tb fs (.bk, e) = some (.bk, e) := rfl
@[simp] theorem rTry8 : tryR0 tb fs (.ct, e) = some (.ct, e) := rfl
end
end DL

namespace DL
open PySem L2 PySem.Spec
section
variable {g gi gv : Gq} {pt : Pf} {e : En}
@[simp] theorem rsAugS : sAugS g pt gi gv e = (g e).bind fun d => (gi e).bind fun i => (gv e).bind fun v => (gAugS d i v).bind fun l => some (.nx, pt e l) := rfl
end
@[simp] theorem rExtV {j l : Nat} {e : En} : eExtV j l e = (gExt (e.getD j .none) (e.getD l .none)).bind fun d => some (.none, e.set j d) := rfl
@[simp] theorem rUpdT {j : Nat} {f : Ef} {e : En} : eUpdT j f e = (f e).bind fun p => (gUpdT (p.2.getD j .none) p.1).bind fun d => some (.none, p.2.set j d) := rfl
theorem xAugS {ds : List PyData} {k : Nat} {x y : Int} (h : ds[k]? = some (.int x)) : gAugS (.list ds) (.int k) (.int y) = some (.list (ds.set k (.int (x + y)))) := by
  have hk := (List.getElem?_eq_some_iff.mp h).1
  have h1 : ixN ds.length (k : Int) = some k := by
    unfold ixN
    simp
    omega
  unfold gAugS
  simp only [h1, Option.bind_some, h]
  rw [if_pos (by omega)]
end DL

namespace DL
open PySem L2 PySem.Spec

/-! ### data, plainly -/
theorem le_line {n : Nat} (h : n ≤ 1000000) : n ≤ sizeLine := Nat.le_trans h (by decide)
theorem lt_line {n : Nat} (h : n ≤ 1000000) : n < sizeLine := Nat.lt_of_le_of_lt h (by decide)
section
variable {i j : Int} {b c : Bool} {x y z d : PyData} {xs ys zs : List PyData} {s t : Str} {α β γ σ : Type}
@[simp] theorem asB_bool : asB (.bool b) = some b := rfl
@[simp] theorem ifB_bool {p q : Option α} : ifB (.bool b) p q = if b = true then p else q := by cases b <;> rfl
@[simp] theorem un2_ok : un2 (.tuple [x, y]) = some (x, y) := rfl
@[simp] theorem un3_ok : un3 (.tuple [x, y, z]) = some (x, y, z) := rfl
@[simp] theorem un4_ok : un4 (.tuple [x, y, z, d]) = some (x, y, z, d) := rfl
@[simp] theorem grd_true : grd true = some () := rfl
@[simp] theorem xAdd : gAdd (.int i) (.int j) = some (.int (i + j)) := rfl
@[simp] theorem xAddB : gAdd (.bool b) (.int j) = some (.int (bI b + j)) := rfl
@[simp] theorem xSub : DL.gSub (.int i) (.int j) = some (.int (i - j)) := rfl
@[simp] theorem xSubB : DL.gSub (.bool b) (.int j) = some (.int (bI b - j)) := rfl
@[simp] theorem xNeg : gNeg (.int i) = some (.int (-i)) := rfl
@[simp] theorem xAddI : gAddI (.int i) (.int j) = some (.int (i + j)) := rfl
theorem xMul (h : i.natAbs < 2 ^ 64 ∨ j.natAbs < 2 ^ 64) : gMul (.int i) (.int j) = some (.int (i * j)) := by
  show (if mulOk i j = true then _ else _) = _
  rw [if_pos]
  unfold mulOk
  rcases h with h | h
  · rw [decide_eq_true h]; rfl
  · rw [decide_eq_true h, Bool.or_true]
theorem xMulI (h : i.natAbs < 2 ^ 64 ∨ j.natAbs < 2 ^ 64) : gMulI (.int i) (.int j) = some (.int (i * j)) := xMul h
theorem xFdivW {k : Nat} (h : 0 < j) (h2 : j.natAbs < 2 ^ k) (hk : k ≤ 9000) : gFdiv (.int i) (.int j) = some (.int (i / j)) :=
  if_pos ⟨h, Nat.lt_of_lt_of_le ((Nat.log2_lt (show j.natAbs ≠ 0 by omega)).mpr h2) hk⟩
theorem xFdiv (h : 0 < j) (h2 : j < 1073741824) : gFdiv (.int i) (.int j) = some (.int (i / j)) := xFdivW (k := 30) h (by omega) (by decide)
theorem xMod (h : 0 < j) : gMod (.int i) (.int j) = some (.int (i % j)) := if_pos h
@[simp] theorem xLt : gLt (.int i) (.int j) = some (.bool (decide (i < j))) := rfl
@[simp] theorem xGt : gGt (.int i) (.int j) = some (.bool (decide (j < i))) := rfl
@[simp] theorem xLe : gLe (.int i) (.int j) = some (.bool (decide (i ≤ j))) := rfl
@[simp] theorem xGe : gGe (.int i) (.int j) = some (.bool (decide (j ≤ i))) := rfl
/-! equality -/
theorem eqv_int : PyData.eqv (.int i) (.int j) = decide (i = j) := by
  unfold PyData.eqv
  by_cases h : i = j <;> simp [h]
theorem eqv_str : PyData.eqv (.str s) (.str t) = (s == t) := by unfold PyData.eqv; rfl
theorem eqv_bool : PyData.eqv (.bool b) (.bool c) = (b == c) := by unfold PyData.eqv; cases b <;> cases c <;> rfl
theorem eqv_tuple : PyData.eqv (.tuple xs) (.tuple ys) = PyData.eqvAll xs ys := by rw [PyData.eqv]
theorem eqv_list : PyData.eqv (.list xs) (.list ys) = PyData.eqvAll xs ys := by rw [PyData.eqv]
theorem eqv_nil : PyData.eqvAll xs [] = xs.isEmpty := by cases xs <;> simp [PyData.eqvAll]
theorem eqv_cons : PyData.eqvAll (x :: xs) (y :: ys) = (PyData.eqv x y && PyData.eqvAll xs ys) := by rw [PyData.eqvAll]
theorem gEq_ok (h : x.depth ≤ 60 ∨ y.depth ≤ 60) (hx : x.plain = true) (hy : y.plain = true) : gEq x y = some (.bool (PyData.eqv x y)) := by
  unfold gEq dep pln
  rw [hx, hy, if_pos]
  rw [decide_eq_true]
  · rfl
  · rcases h with h | h
    · exact Nat.le_trans (Nat.min_le_left _ _) h
    · exact Nat.le_trans (Nat.min_le_right _ _) h
theorem gNe_ok (h : x.depth ≤ 60 ∨ y.depth ≤ 60) (hx : x.plain = true) (hy : y.plain = true) : gNe x y = some (.bool (!PyData.eqv x y)) := by
  unfold gNe dep pln
  rw [hx, hy, if_pos]
  rw [decide_eq_true]
  · rfl
  · rcases h with h | h
    · exact Nat.le_trans (Nat.min_le_left _ _) h
    · exact Nat.le_trans (Nat.min_le_right _ _) h
@[simp] theorem xEq : gEq (.int i) (.int j) = some (.bool (decide (i = j))) := by rw [gEq_ok (x := .int i) (y := .int j) (.inl (Nat.zero_le 60)) rfl rfl, eqv_int]
@[simp] theorem xNe : gNe (.int i) (.int j) = some (.bool (!decide (i = j))) := by rw [gNe_ok (x := .int i) (y := .int j) (.inl (Nat.zero_le 60)) rfl rfl, eqv_int]
@[simp] theorem xEqS : gEq (.str s) (.str t) = some (.bool (s == t)) := by rw [gEq_ok (x := .str s) (y := .str t) (.inl (Nat.zero_le 60)) rfl rfl, eqv_str]
@[simp] theorem xNeS : gNe (.str s) (.str t) = some (.bool (!(s == t))) := by rw [gNe_ok (x := .str s) (y := .str t) (.inl (Nat.zero_le 60)) rfl rfl, eqv_str]
@[simp] theorem xEqB : gEq (.bool b) (.bool c) = some (.bool (b == c)) := by rw [gEq_ok (x := .bool b) (y := .bool c) (.inl (Nat.zero_le 60)) rfl rfl, eqv_bool]
@[simp] theorem xNeB : gNe (.bool b) (.bool c) = some (.bool (!(b == c))) := by rw [gNe_ok (x := .bool b) (y := .bool c) (.inl (Nat.zero_le 60)) rfl rfl, eqv_bool]
theorem plain_nil : PyData.plainAll [] = true := by unfold PyData.plainAll; rfl
theorem plain_cons : PyData.plainAll (x :: xs) = (x.plain && PyData.plainAll xs) := by rw [PyData.plainAll]
theorem plain_tuple : (PyData.tuple xs).plain = PyData.plainAll xs := by rw [PyData.plain]
theorem plain_list : (PyData.list xs).plain = PyData.plainAll xs := by rw [PyData.plain]
theorem plain_all (h : ∀ x ∈ xs, x.plain = true) : PyData.plainAll xs = true := by
  induction xs with
  | nil => exact plain_nil
  | cons x xs ih => rw [plain_cons, h x (List.mem_cons_self ..), ih fun y hy => h y (List.mem_cons_of_mem _ hy)]; rfl
theorem plain_map {f : α → PyData} (h : ∀ a, (f a).plain = true) {l : List α} : PyData.plainAll (l.map f) = true := plain_all fun x hx => by
  obtain ⟨a, _, rfl⟩ := List.mem_map.mp hx
  exact h a
theorem depth_all {n : Nat} (h : ∀ x ∈ xs, x.depth ≤ n) : PyData.depthAll xs ≤ n := by
  induction xs with
  | nil => unfold PyData.depthAll; omega
  | cons x xs ih =>
    unfold PyData.depthAll
    exact Nat.max_le.mpr ⟨h x (List.mem_cons_self ..), ih fun y hy => h y (List.mem_cons_of_mem _ hy)⟩
theorem depth_map {n : Nat} {f : α → PyData} (h : ∀ a, (f a).depth ≤ n) {l : List α} : PyData.depthAll (l.map f) ≤ n := depth_all fun x hx => by
  obtain ⟨a, _, rfl⟩ := List.mem_map.mp hx
  exact h a
theorem depth_tuple : (PyData.tuple xs).depth = PyData.depthAll xs + 1 := by rw [PyData.depth]
theorem depth_list : (PyData.list xs).depth = PyData.depthAll xs + 1 := by rw [PyData.depth]
@[simp] theorem depth_int : (PyData.int i).depth = 0 := rfl
@[simp] theorem plain_int : (PyData.int i).plain = true := rfl
/-- == of typed data -/
theorem eqvAll_map {f : α → PyData} [DecidableEq α] (h : ∀ a b, PyData.eqv (f a) (f b) = decide (a = b)) : ∀ l r : List α, PyData.eqvAll (l.map f) (r.map f) = decide (l = r)
  | [], [] => by simp [PyData.eqvAll]
  | [], b :: r => by simp [PyData.eqvAll]
  | a :: l, [] => by simp [PyData.eqvAll]
  | a :: l, b :: r => by
    rw [List.map_cons, List.map_cons, eqv_cons, h, eqvAll_map h l r, Bool.eq_iff_iff]
    simp
@[simp] theorem xEqNilL : gEq (.list xs) (.list []) = some (.bool xs.isEmpty) := by
  have h : (dep (.list xs) (.list []) && pln (.list xs) (.list [])) = true := by
    have : dep (.list xs) (.list []) = true := decide_eq_true (Nat.le_trans (Nat.min_le_right _ _) (by decide))
    rw [this]
    unfold pln
    exact Bool.or_true _
  unfold gEq
  rw [if_pos h, eqv_list, eqv_nil]
@[simp] theorem xNeNilL : gNe (.list xs) (.list []) = some (.bool (!xs.isEmpty)) := by
  have h : (dep (.list xs) (.list []) && pln (.list xs) (.list [])) = true := by
    have : dep (.list xs) (.list []) = true := decide_eq_true (Nat.le_trans (Nat.min_le_right _ _) (by decide))
    rw [this]
    unfold pln
    exact Bool.or_true _
  unfold gNe
  rw [if_pos h, eqv_list, eqv_nil]
@[simp] theorem xEqNilT : gEq (.tuple xs) (.tuple []) = some (.bool xs.isEmpty) := by
  have h : (dep (.tuple xs) (.tuple []) && pln (.tuple xs) (.tuple [])) = true := by
    have : dep (.tuple xs) (.tuple []) = true := decide_eq_true (Nat.le_trans (Nat.min_le_right _ _) (by decide))
    rw [this]
    unfold pln
    exact Bool.or_true _
  unfold gEq
  rw [if_pos h, eqv_tuple, eqv_nil]
@[simp] theorem xNeNilT : gNe (.tuple xs) (.tuple []) = some (.bool (!xs.isEmpty)) := by
  have h : (dep (.tuple xs) (.tuple []) && pln (.tuple xs) (.tuple [])) = true := by
    have : dep (.tuple xs) (.tuple []) = true := decide_eq_true (Nat.le_trans (Nat.min_le_right _ _) (by decide))
    rw [this]
    unfold pln
    exact Bool.or_true _
  unfold gNe
  rw [if_pos h, eqv_tuple, eqv_nil]
/-! sequences -/
@[simp] theorem xLenL : gLen (.list xs) = some (.int xs.length) := rfl
@[simp] theorem xLenT : gLen (.tuple xs) = some (.int xs.length) := rfl
@[simp] theorem xLenLL : gLenL (.list xs) = some (.int xs.length) := rfl
@[simp] theorem xTupL : gTuple (.list xs) = some (.tuple xs) := rfl
@[simp] theorem xTupT : gTuple (.tuple xs) = some (.tuple xs) := rfl
@[simp] theorem xListL : gList (.list xs) = some (.list xs) := rfl
@[simp] theorem xListT : gList (.tuple xs) = some (.list xs) := rfl
@[simp] theorem xAbs : gAbs (.int i) = some (.int (if i < 0 then -i else i)) := rfl
@[simp] theorem xIxL : gIx (.list xs) (.int i) = atI xs i := rfl
@[simp] theorem xIxT : gIx (.tuple xs) (.int i) = atI xs i := rfl
@[simp] theorem xItem : itemD (.list xs) (.int i) = atI xs i := rfl
@[simp] theorem xSeqL : seqD (.list xs) = some xs := rfl
@[simp] theorem xSeqT : seqD (.tuple xs) = some xs := rfl
@[simp] theorem xEnL : gEn (.list xs) = some (enumD 0 xs) := rfl
@[simp] theorem xEnT : gEn (.tuple xs) = some (enumD 0 xs) := rfl
@[simp] theorem xZipL : zipS (.list xs) (.list ys) = some (zipD xs ys) := rfl
@[simp] theorem xZipT : zipS (.tuple xs) (.tuple ys) = some (zipD xs ys) := rfl
@[simp] theorem xIsa {p : PyData → Bool} : gIsa p d = some (.bool (p d)) := rfl
@[simp] theorem xTruB : gTruth (.bool b) = some b := rfl
@[simp] theorem xTruL : gTruth (.list xs) = some (!xs.isEmpty) := rfl
@[simp] theorem xTruT : gTruth (.tuple xs) = some (!xs.isEmpty) := rfl
def isN : PyData → Bool
  | .none => true
  | _ => false
@[simp] theorem isN0 : isN .none = true := rfl
@[simp] theorem isN1 : isN (.int i) = false := rfl
@[simp] theorem isN2 : isN (.bool b) = false := rfl
@[simp] theorem isN3 : isN (.str s) = false := rfl
@[simp] theorem isN4 : isN (.list xs) = false := rfl
@[simp] theorem isN5 : isN (.tuple xs) = false := rfl
@[simp] theorem xIsN : gIs d .none = some (.bool (isN d)) := by cases d <;> rfl
@[simp] theorem xIsNotN : gIsNot d .none = some (.bool (!isN d)) := by cases d <;> rfl
@[simp] theorem xIsB : gIs (.bool b) (.bool c) = some (.bool (b == c)) := rfl
@[simp] theorem xIsNotB : gIsNot (.bool b) (.bool c) = some (.bool (!(b == c))) := rfl
@[simp] theorem xIsNB : gIs .none (.bool c) = some (.bool false) := rfl
@[simp] theorem xBackT : gBack (.tuple xs) = some (.tuple xs.reverse) := rfl
@[simp] theorem xBackL : gBack (.list xs) = some (.list xs.reverse) := rfl
@[simp] theorem xPrt : prt (.int i) = some (some i) := rfl
theorem xAllL (h : PyData.plainAll xs = true) : gAll (.list xs) = some (.bool (xs.all PyData.truthy)) := if_pos h
theorem xAnyL (h : PyData.plainAll xs = true) : gAny (.list xs) = some (.bool (xs.any PyData.truthy)) := if_pos h
theorem xAllB {f : α → Bool} {l : List α} : gAll (.list (l.map fun a => .bool (f a))) = some (.bool (l.all f)) := by
  rw [xAllL (plain_map fun _ => rfl), List.all_map]; rfl
theorem xAnyB {f : α → Bool} {l : List α} : gAny (.list (l.map fun a => .bool (f a))) = some (.bool (l.any f)) := by
  rw [xAnyL (plain_map fun _ => rfl), List.any_map]; rfl
theorem xAddT (h : xs.length + ys.length ≤ 1000000) : gAdd (.tuple xs) (.tuple ys) = some (.tuple (xs ++ ys)) := if_pos (le_line h)
theorem xAddL (h : xs.length + ys.length ≤ 1000000) : gAdd (.list xs) (.list ys) = some (.list (xs ++ ys)) := if_pos (le_line h)
theorem xAddLL (h : xs.length + ys.length ≤ 1000000) : gAddL (.list xs) (.list ys) = some (.list (xs ++ ys)) := if_pos (le_line h)
theorem xApp (h : xs.length ≤ 1000000) : gApp (.list xs) x = some (.list (xs ++ [x])) := if_pos (lt_line h)
theorem xExt (h : xs.length + ys.length ≤ 1000000) : gExt (.list xs) (.list ys) = some (.list (xs ++ ys)) := if_pos (le_line h)
theorem xPow (h : 0 ≤ j) (h2 : j ≤ 1000000) (h3 : i.natAbs < 2 ^ 64) : gPow (.int i) (.int j) = some (.int (i ^ j.toNat)) := if_pos ⟨h, h2, h3⟩
@[simp] theorem scInt : scD (.int i) = true := rfl
@[simp] theorem scBool : scD (.bool b) = true := rfl
@[simp] theorem at0 {a : α} {l : List α} : atI (a :: l) 0 = some a := by
  have : atI (a :: l) ((0 : Nat) : Int) = some a := atI_nat rfl
  exact this
@[simp] theorem at1 {a b : α} {l : List α} : atI (a :: b :: l) 1 = some b := by
  have : atI (a :: b :: l) ((1 : Nat) : Int) = some b := atI_nat rfl
  exact this
@[simp] theorem at2 {a b c : α} {l : List α} : atI (a :: b :: c :: l) 2 = some c := by
  have : atI (a :: b :: c :: l) ((2 : Nat) : Int) = some c := atI_nat rfl
  exact this
theorem ixN_nat {n j : Nat} (h : j < n) : ixN n ((j : Nat) : Int) = some j := by
  unfold ixN
  simp [h]
@[simp] theorem ixn0 {n : Nat} : ixN (n + 1) 0 = some 0 := ixN_nat (j := 0) (by omega)
@[simp] theorem ixn1 {n : Nat} : ixN (n + 1 + 1) 1 = some 1 := ixN_nat (j := 1) (by omega)
@[simp] theorem ixn2 {n : Nat} : ixN (n + 1 + 1 + 1) 2 = some 2 := ixN_nat (j := 2) (by omega)
theorem at_nat {l : List α} {n : Nat} (h : n < l.length) : atI l ((n : Nat) : Int) = some l[n] := atI_nat (List.getElem?_eq_getElem h)
theorem at_of {l : List α} {i : Int} (h0 : 0 ≤ i) (h1 : i < l.length) : ∃ h, atI l i = some (l[i.toNat]'h) := by
  have h2 : i.toNat < l.length := by omega
  refine ⟨h2, ?_⟩
  have : atI l ((i.toNat : Nat) : Int) = some (l[i.toNat]'h2) := atI_nat (List.getElem?_eq_getElem h2)
  rwa [show ((i.toNat : Nat) : Int) = i by omega] at this
theorem at_mem {l : List α} {i : Int} (h0 : 0 ≤ i) (h1 : i < l.length) : ∃ a, a ∈ l ∧ atI l i = some a := by
  obtain ⟨h, e⟩ := at_of h0 h1
  exact ⟨_, List.getElem_mem h, e⟩
theorem at_map {f : α → β} {l : List α} {i : Int} (h0 : 0 ≤ i) (h1 : i < l.length) : ∃ a, l[i.toNat]? = some a ∧ a ∈ l ∧ atI (l.map f) i = some (f a) := by
  have h2 : i.toNat < l.length := by omega
  refine ⟨l[i.toNat], List.getElem?_eq_getElem h2, List.getElem_mem h2, ?_⟩
  have : atI (l.map f) ((i.toNat : Nat) : Int) = some (f l[i.toNat]) := atI_nat (by rw [List.getElem?_map, List.getElem?_eq_getElem h2]; rfl)
  rwa [show ((i.toNat : Nat) : Int) = i by omega] at this
/-- the range of a number -/
def natD (i : Nat) : PyData := .int (i : Nat)
theorem rng1_ok {n : Int} (h : 0 ≤ n) (h2 : n ≤ 1000000) : rng1 (.int n) = some ((List.range n.toNat).map natD) := by
  show (if n.toNat ≤ sizeLine ∧ -(2 ^ 62) ≤ n ∧ n < 2 ^ 62 then some (rngD 0 n.toNat) else none) = _
  rw [if_pos ⟨le_line (by omega), by omega, by omega⟩]
  unfold rngD natD
  simp
theorem rng1_nat {n : Nat} (h2 : n ≤ 1000000) : rng1 (.int (n : Nat)) = some ((List.range n).map natD) := by
  rw [rng1_ok (by omega) (by omega)]; rfl
/-! slices -/
theorem cut_take {k : Nat} : cutD xs none (some (k : Nat)) = xs.take k := by
  unfold cutD
  rw [HT.sIx_nat]
  show (xs.drop 0).take (min k xs.length - 0) = _
  rw [List.drop_zero, Nat.sub_zero]
  by_cases h : k ≤ xs.length
  · rw [Nat.min_eq_left h]
  · rw [Nat.min_eq_right (by omega), List.take_length, List.take_of_length_le (by omega)]
theorem cut_drop {k : Nat} : cutD xs (some (k : Nat)) none = xs.drop k := by
  unfold cutD
  rw [HT.sIx_nat]
  show (xs.drop (min k xs.length)).take (xs.length - min k xs.length) = _
  by_cases h : k ≤ xs.length
  · rw [Nat.min_eq_left h, List.take_of_length_le (by rw [List.length_drop]; omega)]
  · rw [Nat.min_eq_right (by omega), List.drop_length, List.drop_eq_nil_iff.mpr (by omega), List.take_nil]
/-! ### comprehensions and loops -/
theorem mapS_map {f : β → Option γ} {g : α → β} : ∀ {l : List α}, mapS (l.map g) f = mapS l fun a => f (g a)
  | [] => rfl
  | a :: l => by show (f (g a)).bind _ = (f (g a)).bind _; rw [mapS_map]
theorem mapS_ok {f : α → Option β} {g : α → β} : ∀ {l : List α}, (∀ a ∈ l, f a = some (g a)) → mapS l f = some (l.map g)
  | [], _ => rfl
  | a :: l, h => by
    show (f a).bind _ = _
    rw [h a (List.mem_cons_self ..), mapS_ok (l := l) fun b hb => h b (List.mem_cons_of_mem _ hb)]; rfl
theorem mapS_of {f : β → Option γ} {m : α → β} {g : α → γ} {l : List α} (h : ∀ a ∈ l, f (m a) = some (g a)) : mapS (l.map m) f = some (l.map g) := by rw [mapS_map]; exact mapS_ok h
theorem filS_map {f : β → Option (Option γ)} {g : α → β} : ∀ {l : List α}, filS (l.map g) f = filS l fun a => f (g a)
  | [] => rfl
  | a :: l => by show (f (g a)).bind _ = (f (g a)).bind _; rw [filS_map]
theorem filS_ok {f : α → Option (Option β)} {p : α → Bool} {g : α → β} : ∀ {l : List α}, (∀ a ∈ l, f a = some (if p a = true then some (g a) else none)) → filS l f = some ((l.filter p).map g)
  | [], _ => rfl
  | a :: l, h => by
    show (f a).bind _ = _
    rw [h a (List.mem_cons_self ..), filS_ok (l := l) fun b hb => h b (List.mem_cons_of_mem _ hb)]
    by_cases hp : p a = true
    · rw [if_pos hp, List.filter_cons_of_pos hp]; rfl
    · rw [if_neg hp, List.filter_cons_of_neg hp]; rfl
theorem filS_of {f : β → Option (Option γ)} {m : α → β} {p : α → Bool} {g : α → γ} {l : List α} (h : ∀ a ∈ l, f (m a) = some (if p a = true then some (g a) else none)) : filS (l.map m) f = some ((l.filter p).map g) := by rw [filS_map]; exact filS_ok h
theorem foldS_map {f : β → σ → Option σ} {g : α → β} : ∀ {l : List α} {s : σ}, foldS (l.map g) f s = foldS l (fun a s => f (g a) s) s
  | [], s => rfl
  | a :: l, s => by show (f (g a) s).bind _ = (f (g a) s).bind _; congr 1; funext s'; exact foldS_map
theorem forS_map {f : β → σ → Option (Out × σ)} {g : α → β} : ∀ {l : List α} {s : σ}, forS (l.map g) f s = forS l (fun a s => f (g a) s) s
  | [], s => rfl
  | a :: l, s => by
    show (f (g a) s).bind _ = (f (g a) s).bind _
    congr 1; funext p
    split <;> first | rfl | exact forS_map
/-- a loop that never leaves, by an invariant -/
theorem foldS_inv {f : α → σ → Option σ} (Inv : Nat → σ → Prop) : ∀ {l : List α} {k : Nat} {s : σ}, Inv k s → (∀ i a s, l[i]? = some a → Inv (k + i) s → ∃ s', f a s = some s' ∧ Inv (k + i + 1) s') → ∃ s', foldS l f s = some s' ∧ Inv (k + l.length) s'
  | [], k, s, h0, _ => ⟨s, rfl, h0⟩
  | a :: l, k, s, h0, hs => by
    obtain ⟨s1, h1, h2⟩ := hs 0 a s rfl h0
    obtain ⟨s', h3, h4⟩ := foldS_inv Inv (l := l) (k := k + 1) h2 fun i b t hb hi => by
      have := hs (i + 1) b t (by simpa using hb) (by rw [show k + (i + 1) = k + 1 + i by omega]; exact hi)
      rw [show k + (i + 1) + 1 = k + 1 + i + 1 by omega] at this
      exact this
    refine ⟨s', ?_, by rw [List.length_cons, show k + (l.length + 1) = k + 1 + l.length by omega]; exact h4⟩
    show (f a s).bind _ = _
    rw [h1]; exact h3
theorem foldS_range {f : PyData → σ → Option σ} (Inv : Nat → σ → Prop) {n : Nat} {s : σ} (h0 : Inv 0 s) (hs : ∀ i s, i < n → Inv i s → ∃ s', f (natD i) s = some s' ∧ Inv (i + 1) s') : ∃ s', foldS ((List.range n).map natD) f s = some s' ∧ Inv n s' := by
  rw [foldS_map]
  obtain ⟨s', h1, h2⟩ := foldS_inv (f := fun a s => f (natD a) s) Inv (l := List.range n) (k := 0) h0 fun i a s ha hi => by
    obtain ⟨hn, rfl⟩ := List.getElem?_eq_some_iff.mp ha
    rw [List.length_range] at hn
    rw [List.getElem_range]
    rw [Nat.zero_add] at hi ⊢
    exact hs i s hn hi
  rw [List.length_range, Nat.zero_add] at h2
  exact ⟨s', h1, h2⟩
theorem forS_inv {f : α → σ → Option (Out × σ)} (Inv : Nat → σ → Prop) : ∀ {l : List α} {k : Nat} {s : σ}, Inv k s → (∀ i a s, l[i]? = some a → Inv (k + i) s → ∃ s', f a s = some (.nx, s') ∧ Inv (k + i + 1) s') → ∃ s', forS l f s = some (.nx, s') ∧ Inv (k + l.length) s'
  | [], k, s, h0, _ => ⟨s, rfl, h0⟩
  | a :: l, k, s, h0, hs => by
    obtain ⟨s1, h1, h2⟩ := hs 0 a s rfl h0
    obtain ⟨s', h3, h4⟩ := forS_inv Inv (l := l) (k := k + 1) h2 fun i b t hb hi => by
      have := hs (i + 1) b t (by simpa using hb) (by rw [show k + (i + 1) = k + 1 + i by omega]; exact hi)
      rw [show k + (i + 1) + 1 = k + 1 + i + 1 by omega] at this
      exact this
    refine ⟨s', ?_, by rw [List.length_cons, show k + (l.length + 1) = k + 1 + l.length by omega]; exact h4⟩
    show (f a s).bind _ = _
    rw [h1]; exact h3
theorem forS_range {f : PyData → σ → Option (Out × σ)} (Inv : Nat → σ → Prop) {n : Nat} {s : σ} (h0 : Inv 0 s) (hs : ∀ i s, i < n → Inv i s → ∃ s', f (natD i) s = some (.nx, s') ∧ Inv (i + 1) s') : ∃ s', forS ((List.range n).map natD) f s = some (.nx, s') ∧ Inv n s' := by
  rw [forS_map]
  obtain ⟨s', h1, h2⟩ := forS_inv (f := fun a s => f (natD a) s) Inv (l := List.range n) (k := 0) h0 fun i a s ha hi => by
    obtain ⟨hn, rfl⟩ := List.getElem?_eq_some_iff.mp ha
    rw [List.length_range] at hn
    rw [List.getElem_range]
    rw [Nat.zero_add] at hi ⊢
    exact hs i s hn hi
  rw [List.length_range, Nat.zero_add] at h2
  exact ⟨s', h1, h2⟩
/-- a loop without a state that never leaves -/
theorem forS_all {f : α → Unit → Option (Out × Unit)} {l : List α} (h : ∀ a ∈ l, f a () = some (.nx, ())) : forS l f () = some (.nx, ()) := by
  induction l with
  | nil => rfl
  | cons a l ih =>
    show (f a ()).bind _ = _
    rw [h a (List.mem_cons_self ..)]
    exact ih fun b hb => h b (List.mem_cons_of_mem _ hb)
/-- what a loop leaves with: an answer, or nothing -/
def rtO : Option PyData → Out
  | some d => .rt d
  | none => .nx
@[simp] theorem thenS_rtO {o : Option PyData} {s : σ} {Kk : σ → Option β} {R : PyData → σ → Option β} : thenS (rtO o, s) Kk R = o.elim (Kk s) fun d => R d s := by cases o <;> rfl
/-- a loop that returns at the first that passes -/
theorem forS_find {f : α → Unit → Option (Out × Unit)} (p : α → Bool) (g : α → PyData) : ∀ {l : List α}, (∀ a ∈ l, f a () = some (if p a = true then .rt (g a) else .nx, ())) → forS l f () = some (rtO ((l.find? p).map g), ())
  | [], _ => rfl
  | a :: l, h => by
    show (f a ()).bind _ = _
    rw [h a (List.mem_cons_self ..)]
    by_cases hp : p a = true
    · rw [List.find?_cons_of_pos hp, if_pos hp]; rfl
    · rw [List.find?_cons_of_neg hp, if_neg hp]
      exact forS_find p g fun b hb => h b (List.mem_cons_of_mem _ hb)
theorem whR_step {n : Nat} {c : σ → Option Bool} {f : σ → Option (Out × σ)} {s s' : σ} (h : c s = some true) (h2 : f s = some (.nx, s')) : whR (n + 1) c f s = whR n c f s' := by
  show (c s).bind _ = _
  rw [h]
  show (f s).bind _ = _
  rw [h2]; rfl
theorem whR_ret {n : Nat} {c : σ → Option Bool} {f : σ → Option (Out × σ)} {s s' : σ} {d : PyData} (h : c s = some true) (h2 : f s = some (.rt d, s')) : whR (n + 1) c f s = some (.rt d, s') := by
  show (c s).bind _ = _
  rw [h]
  show (f s).bind _ = _
  rw [h2]; rfl
theorem whR_end {n : Nat} {c : σ → Option Bool} {f : σ → Option (Out × σ)} {s : σ} (h : c s = some false) : whR (n + 1) c f s = some (.nx, s) := by
  show (c s).bind _ = _
  rw [h]; rfl
/-! enumerate, zip -/
theorem enum_map (f : α → PyData) : ∀ (k : Nat) (l : List α), enumD k (l.map f) = (l.zipIdx k).map fun p => .tuple [.int (p.2 : Nat), f p.1]
  | _, [] => rfl
  | k, x :: l => by
    rw [List.map_cons, List.zipIdx_cons, List.map_cons]
    unfold enumD
    rw [enum_map f (k + 1) l]
theorem enum_id (k : Nat) (l : List PyData) : enumD k l = (l.zipIdx k).map fun p => .tuple [.int (p.2 : Nat), p.1] := by
  have := enum_map (fun x : PyData => x) k l
  rwa [List.map_id'] at this
theorem zip_map (f : α → PyData) (g : β → PyData) : ∀ (l : List α) (r : List β), zipD (l.map f) (r.map g) = (l.zip r).map fun p => .tuple [f p.1, g p.2]
  | [], _ => by simp [zipD]
  | _ :: _, [] => by simp [zipD]
  | a :: l, b :: r => by
    rw [List.map_cons, List.map_cons, List.zip_cons_cons, List.map_cons]
    unfold zipD
    rw [zip_map f g l r]
end
/-! ### what repr shows is small: a weight that adds up -/
mutual
def wt : PyData → Nat
  | .none => 20
  | .bool _ => 20
  | .int i => 64 * i.natAbs.log2 + 20
  | .str x => (reprText x).length + 20
  | .list xs => wtL xs + 20
  | .tuple xs => wtL xs + 20
  | .dict kvs => (PyData.dict kvs).shown.length + 20
def wtL : List PyData → Nat
  | [] => 0
  | x :: xs => wt x + 2 + wtL xs
end
theorem reprText_pos {x : Str} : True := trivial
theorem shownAll_map : ∀ xs : List PyData, PyData.shownAll xs = xs.map PyData.shown
  | [] => by unfold PyData.shownAll; rfl
  | x :: xs => by unfold PyData.shownAll; rw [shownAll_map xs]; rfl
def pile (ts : List Str) : Nat := (ts.map fun t => t.length + 2).sum
theorem textFrom_le : ∀ (ts : List Str) (k : Nat) (acc : Str), (textFrom k acc ts).length ≤ acc.length + pile ts
  | [], k, acc => Nat.le_refl _
  | t :: r, k, acc => by
    have ih := textFrom_le r (k + 1) (acc ++ (if k > 0 then ", " else "" : String) ++ t)
    have e : (acc ++ (if k > 0 then ", " else "" : String) ++ t).length = acc.length + (if k > 0 then 2 else 0) + t.length := by
      rw [strLen_append, strLen_append]
      split <;> rfl
    have : pile (t :: r) = t.length + 2 + pile r := rfl
    have h2 : (if k > 0 then 2 else 0) ≤ 2 := by split <;> omega
    show (textFrom (k + 1) _ r).length ≤ _
    omega
theorem join_le : ∀ ts : List Str, (Str.join ", " ts).length ≤ pile ts
  | [] => Nat.le_refl _
  | [x] => by show x.length ≤ x.length + 2 + 0; omega
  | x :: y :: r => by
    have ih := join_le (y :: r)
    show (x ++ ", " ++ Str.join ", " (y :: r)).length ≤ x.length + 2 + pile (y :: r)
    rw [strLen_append, strLen_append]
    have : ((", " : String) : Str).length = 2 := rfl
    omega
theorem log_digits : ∀ (k n : Nat), n < 10 ^ k → n.log2 ≤ 4 * k := fun k n h => by
  by_cases z : n = 0
  · rw [z]; simp
  · have : n < 2 ^ (4 * k) := Nat.lt_of_lt_of_le h (by rw [Nat.pow_mul]; exact Nat.pow_le_pow_left (by decide) k)
    have := (Nat.log2_lt (k := 4 * k) z).mpr this
    omega
theorem int_shown (i : Int) : (PyData.int i).shown.length ≤ i.natAbs.log2 + 20 := by
  have hp : i.natAbs < 10 ^ (i.natAbs.log2 + 1) := by
    have : i.natAbs < 2 ^ (i.natAbs.log2 + 1) := by
      by_cases z : i.natAbs = 0
      · rw [z]; decide
      · exact Nat.lt_log2_self
    exact Nat.lt_of_lt_of_le this (Nat.pow_le_pow_left (by decide) _)
  have := int_text_length_le10 (k := i.natAbs.log2 + 1) (by omega) hp
  show (Str.ofString (toString i)).length ≤ _
  rw [ofString_length]
  omega
mutual
theorem shown_le : ∀ d : PyData, d.shown.length ≤ wt d
  | .none => by show (4 : Nat) ≤ 20; decide
  | .bool b => by cases b <;> decide
  | .int i => by rw [wt]; have := int_shown i; omega
  | .str x => by rw [wt, PyData.shown]; omega
  | .list xs => by
    rw [wt, PyData.shown, listText, strLen_append]
    have := textFrom_le (PyData.shownAll xs) 0 "["
    have e1 : ((("[" : String) : Str)).length = 1 := rfl
    have e2 : ((("]" : String) : Str)).length = 1 := rfl
    have := shownAll_le xs
    omega
  | .tuple xs => by
    rw [wt, PyData.shown, tupleText, strLen_append, strLen_append]
    have := join_le (PyData.shownAll xs)
    have e1 : ((("(" : String) : Str)).length = 1 := rfl
    have e2 : (((if (PyData.shownAll xs).length == 1 then ",)" else ")" : String) : Str)).length ≤ 2 := by split <;> decide
    have := shownAll_le xs
    omega
  | .dict kvs => by rw [wt]; omega
theorem shownAll_le : ∀ xs : List PyData, pile (PyData.shownAll xs) ≤ wtL xs
  | [] => by rw [wtL, PyData.shownAll]; exact Nat.le_refl _
  | x :: xs => by
    rw [wtL, PyData.shownAll]
    have h1 := shown_le x
    have h2 := shownAll_le xs
    show x.shown.length + 2 + pile (PyData.shownAll xs) ≤ _
    omega
end
/-- small data: n deep, s heavy -/
structure Vl (n s : Nat) (d : PyData) : Prop where
  sh : d.showable = true
  dp : d.depth ≤ n
  wt : wt d ≤ s
structure VlL (n s : Nat) (xs : List PyData) : Prop where
  sh : PyData.showableAll xs = true
  dp : PyData.depthAll xs ≤ n
  wt : wtL xs ≤ s
section
variable {n s t n' s' : Nat} {d x : PyData} {xs ys : List PyData}
theorem Vl.mono (h : Vl n s d) (a : n ≤ n') (b : s ≤ s') : Vl n' s' d := ⟨h.sh, Nat.le_trans h.dp a, Nat.le_trans h.wt b⟩
theorem VlL.mono (h : VlL n s xs) (a : n ≤ n') (b : s ≤ s') : VlL n' s' xs := ⟨h.sh, Nat.le_trans h.dp a, Nat.le_trans h.wt b⟩
theorem VlL.nil : VlL n s [] := ⟨by rw [PyData.showableAll], by rw [PyData.depthAll]; omega, by rw [wtL]; omega⟩
theorem VlL.cons (h : Vl n s x) (r : VlL n t xs) : VlL n (s + 2 + t) (x :: xs) :=
  ⟨by rw [PyData.showableAll, h.sh, r.sh]; rfl, by rw [PyData.depthAll]; exact Nat.max_le.mpr ⟨h.dp, r.dp⟩, by rw [wtL]; have := h.wt; have := r.wt; omega⟩
theorem VlL.head (h : VlL n s (x :: xs)) : Vl n s x := by
  obtain ⟨a, b, c⟩ := h
  rw [PyData.showableAll, Bool.and_eq_true] at a
  rw [PyData.depthAll] at b
  rw [wtL] at c
  exact ⟨a.1, Nat.le_trans (Nat.le_max_left _ _) b, by omega⟩
theorem VlL.tail (h : VlL n s (x :: xs)) : VlL n s xs := by
  obtain ⟨a, b, c⟩ := h
  rw [PyData.showableAll, Bool.and_eq_true] at a
  rw [PyData.depthAll] at b
  rw [wtL] at c
  exact ⟨a.2, Nat.le_trans (Nat.le_max_right _ _) b, by omega⟩
theorem VlL.split (h : VlL n s (x :: xs)) : ∃ s1 s2, Vl n s1 x ∧ VlL n s2 xs ∧ s1 + 2 + s2 ≤ s := by
  have c := h.wt
  rw [wtL] at c
  exact ⟨DL.wt x, DL.wtL xs, ⟨h.head.sh, h.head.dp, Nat.le_refl _⟩, ⟨h.tail.sh, h.tail.dp, Nat.le_refl _⟩, c⟩
theorem VlL.mem : ∀ {xs : List PyData}, VlL n s xs → x ∈ xs → Vl n s x
  | y :: ys, h, m => by
    rcases List.mem_cons.mp m with rfl | m
    · exact h.head
    · exact VlL.mem h.tail m
theorem VlL.append : ∀ {xs : List PyData} {s : Nat}, VlL n s xs → VlL n t ys → VlL n (s + t) (xs ++ ys)
  | [], s, _, r => r.mono (Nat.le_refl _) (by omega)
  | x :: xs, s, h, r => by
    obtain ⟨s1, s2, h1, h2, e⟩ := h.split
    exact (VlL.cons h1 (VlL.append h2 r)).mono (Nat.le_refl _) (by omega)
theorem VlL.drop : ∀ {xs : List PyData} (k : Nat), VlL n s xs → VlL n s (xs.drop k)
  | xs, 0, h => h
  | [], k + 1, h => h
  | x :: xs, k + 1, h => VlL.drop (xs := xs) k h.tail
theorem VlL.take : ∀ {xs : List PyData} {s : Nat} (k : Nat), VlL n s xs → VlL n s (xs.take k)
  | xs, s, 0, h => by rw [List.take_zero]; exact .nil
  | [], s, k + 1, h => h
  | x :: xs, s, k + 1, h => by
    obtain ⟨s1, s2, h1, h2, e⟩ := h.split
    exact (VlL.cons h1 (VlL.take (xs := xs) k h2)).mono (Nat.le_refl _) (by omega)
theorem VlL.reverse : ∀ {xs : List PyData} {s : Nat}, VlL n s xs → VlL n s xs.reverse
  | [], s, h => h
  | x :: xs, s, h => by
    obtain ⟨s1, s2, h1, h2, e⟩ := h.split
    rw [List.reverse_cons]
    exact ((VlL.reverse h2).append (VlL.cons h1 (VlL.nil (s := 0)))).mono (Nat.le_refl _) (by omega)
theorem VlL.tuple (h : VlL n s xs) : Vl (n + 1) (s + 20) (.tuple xs) := ⟨by rw [PyData.showable]; exact h.sh, by rw [PyData.depth]; have := h.dp; omega, by rw [DL.wt]; have := h.wt; omega⟩
theorem VlL.list (h : VlL n s xs) : Vl (n + 1) (s + 20) (.list xs) := ⟨by rw [PyData.showable]; exact h.sh, by rw [PyData.depth]; have := h.dp; omega, by rw [DL.wt]; have := h.wt; omega⟩
theorem Vl.tup (h : Vl (n + 1) s (.tuple xs)) : VlL n s xs := ⟨by have := h.sh; rwa [PyData.showable] at this, by have := h.dp; rw [PyData.depth] at this; omega, by have := h.wt; rw [DL.wt] at this; omega⟩
theorem Vl.tup0 (h : Vl n s (.tuple xs)) : VlL n s xs := ⟨by have := h.sh; rwa [PyData.showable] at this, by have := h.dp; rw [PyData.depth] at this; omega, by have := h.wt; rw [DL.wt] at this; omega⟩
theorem Vl.lst0 (h : Vl n s (.list xs)) : VlL n s xs := ⟨by have := h.sh; rwa [PyData.showable] at this, by have := h.dp; rw [PyData.depth] at this; omega, by have := h.wt; rw [DL.wt] at this; omega⟩
theorem VlL.len : ∀ {xs : List PyData} {s : Nat}, VlL n s xs → xs.length ≤ s
  | [], _, _ => Nat.zero_le _
  | x :: xs, s, h => by
    obtain ⟨s1, s2, _, h2, e⟩ := h.split
    have := VlL.len h2
    rw [List.length_cons]; omega
theorem vl_none : Vl n (20 + s) .none := ⟨rfl, Nat.zero_le _, by rw [DL.wt]; omega⟩
theorem vl_bool {b : Bool} : Vl n (20 + s) (.bool b) := ⟨rfl, Nat.zero_le _, by rw [DL.wt]; omega⟩
theorem vl_int {i : Int} (h : i.natAbs < 10 ^ 40) : Vl n (10300 + s) (.int i) := by
  have := log_digits 40 _ h
  exact ⟨by rw [PyData.showable]; exact decide_eq_true (by omega), Nat.zero_le _, by rw [DL.wt]; omega⟩
theorem gRepr_ok (h : Vl n s d) (hn : n ≤ 58) (hs : s ≤ 16000000) : gRepr d = some (.str d.shown) := by
  unfold gRepr
  rw [if_pos ⟨h.sh, Nat.le_trans h.dp hn, Nat.le_trans (shown_le d) (Nat.le_trans h.wt (Nat.le_trans hs (by decide)))⟩]
theorem vl_map {α : Type} {f : α → PyData} {l : List α} {c : Nat} (h : ∀ a ∈ l, Vl n c (f a)) : VlL n (l.length * (c + 2)) (l.map f) := by
  induction l with
  | nil => exact .nil
  | cons a l ih =>
    rw [List.map_cons]
    refine (VlL.cons (h a (List.mem_cons_self ..)) (ih fun b hb => h b (List.mem_cons_of_mem _ hb))).mono (Nat.le_refl _) ?_
    rw [List.length_cons, Nat.add_mul]; omega
end
end DL

namespace DL
open PySem L2 PySem.Spec

/-! ### loops and lists, plainly, second part -/
section
variable {i j : Int} {b c : Bool} {x y z d : PyData} {xs ys zs : List PyData} {s t : Str} {α β γ σ : Type}
theorem forS_findSome {f : α → Unit → Option (Out × Unit)} (g : α → Option PyData) : ∀ {l : List α}, (∀ a ∈ l, f a () = some (rtO (g a), ())) → forS l f () = some (rtO (l.findSome? g), ())
  | [], _ => rfl
  | a :: l, h => by
    show (f a ()).bind _ = _
    rw [h a (List.mem_cons_self ..)]
    cases e : g a with
    | some d => rw [List.findSome?_cons, e]; rfl
    | none =>
      rw [List.findSome?_cons, e]
      exact forS_findSome g fun b hb => h b (List.mem_cons_of_mem _ hb)
/-- a comprehension that draws: what is kept of the state, what each item is -/
theorem mapE_inv {f : α → σ → Option (β × σ)} (Inv : Nat → σ → Prop) (P : α → β → Prop) : ∀ {l : List α} {k : Nat} {s : σ}, Inv k s → (∀ i a s, l[i]? = some a → Inv (k + i) s → ∃ y s', f a s = some (y, s') ∧ Inv (k + i + 1) s' ∧ P a y) → ∃ (ys : List β) (s' : σ), mapE l f s = some (ys, s') ∧ Inv (k + l.length) s' ∧ ys.length = l.length ∧ ∀ (i : Nat) (a : α) (y : β), l[i]? = some a → ys[i]? = some y → P a y
  | [], k, s, h0, _ => ⟨[], s, rfl, h0, rfl, fun i a y h _ => by simp at h⟩
  | a :: l, k, s, h0, hs => by
    obtain ⟨y, s1, h1, h2, h3⟩ := hs 0 a s rfl h0
    obtain ⟨ys, s', h4, h5, h6, h7⟩ := mapE_inv Inv P (l := l) (k := k + 1) h2 fun i b t hb hi => by
      have := hs (i + 1) b t (by simpa using hb) (by rw [show k + (i + 1) = k + 1 + i by omega]; exact hi)
      rw [show k + (i + 1) + 1 = k + 1 + i + 1 by omega] at this
      exact this
    refine ⟨y :: ys, s', ?_, by rw [List.length_cons, show k + (l.length + 1) = k + 1 + l.length by omega]; exact h5, by simp [h6], fun i b z hb hz => ?_⟩
    · show (f a s).bind _ = _
      rw [h1]
      show (mapE l f s1).bind _ = _
      rw [h4]; rfl
    · cases i with
      | zero => simp at hb hz; subst hb; subst hz; exact h3
      | succ i => exact h7 i b z (by simpa using hb) (by simpa using hz)
theorem mapE_typ {f : α → σ → Option (β × σ)} (m : γ → β) (Inv : Nat → σ → Prop) (P : Nat → γ → Prop) : ∀ {l : List α} {k : Nat} {s : σ}, Inv k s → (∀ i a s, l[i]? = some a → Inv (k + i) s → ∃ y s', f a s = some (m y, s') ∧ Inv (k + i + 1) s' ∧ P (k + i) y) → ∃ (ys : List γ) (s' : σ), mapE l f s = some (ys.map m, s') ∧ Inv (k + l.length) s' ∧ ys.length = l.length ∧ ∀ (i : Nat) (y : γ), ys[i]? = some y → P (k + i) y
  | [], k, s, h0, _ => ⟨[], s, rfl, h0, rfl, fun i y h => by simp at h⟩
  | a :: l, k, s, h0, hs => by
    obtain ⟨y, s1, h1, h2, h3⟩ := hs 0 a s rfl h0
    obtain ⟨ys, s', h4, h5, h6, h7⟩ := mapE_typ m Inv P (l := l) (k := k + 1) h2 fun i b t hb hi => by
      have := hs (i + 1) b t (by simpa using hb) (by rw [show k + (i + 1) = k + 1 + i by omega]; exact hi)
      rw [show k + (i + 1) + 1 = k + 1 + i + 1 by omega, show k + (i + 1) = k + 1 + i by omega] at this
      exact this
    refine ⟨y :: ys, s', ?_, by rw [List.length_cons, show k + (l.length + 1) = k + 1 + l.length by omega]; exact h5, by simp [h6], fun i z hz => ?_⟩
    · show (f a s).bind _ = _
      rw [h1]
      show (mapE l f s1).bind _ = _
      rw [h4]; rfl
    · cases i with
      | zero => simp at hz; subst hz; exact h3
      | succ i => rw [show k + (i + 1) = k + 1 + i by omega]; exact h7 i z (by simpa using hz)
theorem filE_inv {f : α → σ → Option (Option α × σ)} (Inv : Nat → σ → Prop) : ∀ {l : List α} {k : Nat} {s : σ}, Inv k s → (∀ i a s, l[i]? = some a → Inv (k + i) s → ∃ y s', f a s = some (y, s') ∧ Inv (k + i + 1) s' ∧ (y = some a ∨ y = none)) → ∃ (ys : List α) (s' : σ), filE l f s = some (ys, s') ∧ Inv (k + l.length) s' ∧ ys.Sublist l
  | [], k, s, h0, _ => ⟨[], s, rfl, h0, List.Sublist.slnil⟩
  | a :: l, k, s, h0, hs => by
    obtain ⟨y, s1, h1, h2, h3⟩ := hs 0 a s rfl h0
    obtain ⟨ys, s', h4, h5, h6⟩ := filE_inv Inv (l := l) (k := k + 1) h2 fun i b t hb hi => by
      have := hs (i + 1) b t (by simpa using hb) (by rw [show k + (i + 1) = k + 1 + i by omega]; exact hi)
      rw [show k + (i + 1) + 1 = k + 1 + i + 1 by omega] at this
      exact this
    refine ⟨consO y ys, s', ?_, by rw [List.length_cons, show k + (l.length + 1) = k + 1 + l.length by omega]; exact h5, ?_⟩
    · show (f a s).bind _ = _
      rw [h1]
      show (filE l f s1).bind _ = _
      rw [h4]; rfl
    · rcases h3 with rfl | rfl
      · exact h6.cons_cons a
      · exact h6.cons a
theorem mapE_map {f : β → σ → Option (γ × σ)} {g : α → β} : ∀ {l : List α} {s : σ}, mapE (l.map g) f s = mapE l (fun a s => f (g a) s) s
  | [], s => rfl
  | a :: l, s => by show (f (g a) s).bind _ = (f (g a) s).bind _; congr 1; funext p; rw [mapE_map]
theorem whS_step {n : Nat} {c : σ → Option Bool} {f : σ → Option σ} {s s' : σ} (h : c s = some true) (h2 : f s = some s') : whS (n + 1) c f s = whS n c f s' := by
  show (c s).bind _ = _
  rw [h]
  show (f s).bind _ = _
  rw [h2]; rfl
theorem whS_end {n : Nat} {c : σ → Option Bool} {f : σ → Option σ} {s : σ} (h : c s = some false) : whS (n + 1) c f s = some s := by
  show (c s).bind _ = _
  rw [h]; rfl
theorem rng2_nat {m n : Nat} (h : n ≤ 1000000) (h2 : m ≤ 1000000) : rng2 (.int (m : Nat)) (.int (n : Nat)) = some ((List.range' m (n - m)).map natD) := by
  simp only [rng2]
  rw [if_pos ⟨le_line (by omega), by omega, by omega, by omega, by omega⟩, show ((n : Int) - m).toNat = n - m by omega]
  unfold rngD
  rw [List.range'_eq_map_range, List.map_map]
  exact congrArg some (List.map_congr_left fun a _ => by show PyData.int _ = PyData.int _; simp)
theorem plain_ints {l : List Int} : PyData.plainAll (l.map PyData.int) = true := plain_map fun _ => rfl
theorem depth_ints {l : List Int} : PyData.depthAll (l.map PyData.int) ≤ 60 := depth_map fun _ => Nat.zero_le _
theorem any_ints {l : List Int} : (l.map PyData.int).any (fun y => PyData.eqv y (.int i)) = decide (i ∈ l) := by
  induction l with
  | nil => simp
  | cons a l ih =>
    rw [List.map_cons, List.any_cons, ih, eqv_int]
    by_cases h : a = i
    · subst h
      rw [decide_eq_true rfl, Bool.true_or, decide_eq_true (List.mem_cons_self ..)]
    · rw [decide_eq_false h, Bool.false_or]
      have : (i ∈ a :: l) ↔ i ∈ l := by rw [List.mem_cons]; exact ⟨fun q => q.resolve_left fun z => h z.symm, .inr⟩
      rw [decide_eq_decide.mpr this]
theorem xNotInL {l : List Int} : gNotIn (.int i) (.list (l.map .int)) = some (.bool (!decide (i ∈ l))) := by
  show (if _ then _ else _) = _
  rw [if_pos (by rw [plain_ints, decide_eq_true (Nat.le_trans (Nat.min_le_left _ _) depth_ints)]; rfl), any_ints]
theorem xNotInT {l : List Int} : gNotIn (.int i) (.tuple (l.map .int)) = some (.bool (!decide (i ∈ l))) := by
  show (if _ then _ else _) = _
  rw [if_pos (by rw [plain_ints, decide_eq_true (Nat.le_trans (Nat.min_le_left _ _) depth_ints)]; rfl), any_ints]
theorem xInL {l : List Int} : gIn (.int i) (.list (l.map .int)) = some (.bool (decide (i ∈ l))) := by
  show (if _ then _ else _) = _
  rw [if_pos (by rw [plain_ints, decide_eq_true (Nat.le_trans (Nat.min_le_left _ _) depth_ints)]; rfl), any_ints]
theorem xInT {l : List Int} : gIn (.int i) (.tuple (l.map .int)) = some (.bool (decide (i ∈ l))) := by
  show (if _ then _ else _) = _
  rw [if_pos (by rw [plain_ints, decide_eq_true (Nat.le_trans (Nat.min_le_left _ _) depth_ints)]; rfl), any_ints]
theorem flat_one (n : Nat) : (List.replicate n [x]).flatten = List.replicate n x := by
  induction n with
  | zero => rfl
  | succ n ih => rw [List.replicate_succ, List.flatten_cons, ih, List.replicate_succ]; rfl
theorem xMulLn {n : Nat} (h : n ≤ 1000000) : gMulL (.list [x]) (.int (n : Nat)) = some (.list (List.replicate n x)) := by
  simp only [gMulL]
  rw [if_pos ⟨by omega, by omega, by rw [Int.toNat_natCast, List.length_singleton, Nat.one_mul]; exact le_line h⟩, Int.toNat_natCast, flat_one]
theorem xMulSn {n : Nat} (h : n ≤ 1000000) : gMul (.list [x]) (.int (n : Nat)) = some (.list (List.replicate n x)) := by
  simp only [gMul]
  rw [if_pos ⟨by omega, by omega, by rw [Int.toNat_natCast, List.length_singleton, Nat.one_mul]; exact le_line h⟩, Int.toNat_natCast, flat_one]
theorem xSet {n : Nat} (h : n < xs.length) : gSet (.list xs) (.int (n : Nat)) x = some (.list (xs.set n x)) := by
  show (ixN xs.length _).bind _ = _
  rw [ixN_nat h]; rfl
theorem xPop {n : Nat} (h : n < xs.length) (h2 : xs.length ≤ 1000000) : gPopAt (.list xs) (.int (n : Nat)) = some (xs[n], .list (xs.eraseIdx n)) := by
  simp only [gPopAt]
  rw [if_pos ⟨by omega, by omega⟩, ixN_nat h]
  show (xs[n]?).bind _ = _
  rw [List.getElem?_eq_getElem h]; rfl
theorem int_nat {r : Int} (h : 0 ≤ r) : ∃ k : Nat, r = (k : Nat) := ⟨r.toNat, by omega⟩
/-- what is left of a row without some others -/
theorem filter_left [DecidableEq α] (t : List α) : ∀ {l : List α}, l.Nodup → l.length ≤ (l.filter fun x => !decide (x ∈ t)).length + t.length := by
  induction t with
  | nil => intro l _; rw [List.filter_eq_self.mpr (by simp)]; omega
  | cons a t ih =>
    intro l hl
    have h1 := ih (l := l.erase a) (hl.erase a)
    have h2 : (l.erase a).filter (fun x => !decide (x ∈ t)) = l.filter fun x => !decide (x ∈ a :: t) := by
      rw [List.Nodup.erase_eq_filter hl, List.filter_filter]
      congr 1; funext x
      rw [Bool.eq_iff_iff]; simp [and_comm]
    rw [h2] at h1
    have h3 : l.length ≤ (l.erase a).length + 1 := by rw [List.length_erase]; split <;> omega
    rw [List.length_cons]; omega
@[simp] theorem ints_map {l : List Int} : intsOf (l.map .int) = some l := by
  induction l with
  | nil => rfl
  | cons a l ih => show (intsOf (l.map .int)).map (a :: ·) = _; rw [ih]; rfl
theorem xSortSetL {l : List Int} (h : l.length ≤ 3000) : gSortSet (.list (l.map .int)) = some (.list ((sortSet l).map .int)) := by
  show ((intsOf (l.map .int)).bind fun ns => if ns.length < 4000 then some ns else none).map _ = _
  rw [ints_map]
  show (if l.length < 4000 then some l else none).map _ = _
  rw [if_pos (by omega)]; rfl
theorem xSortSetT {l : List Int} (h : l.length ≤ 3000) : gSortSet (.tuple (l.map .int)) = some (.list ((sortSet l).map .int)) := xSortSetL h
theorem xLenSetL {l : List Int} (h : l.length ≤ 3000) : gLenSet (.list (l.map .int)) = some (.int ((sortSet l).length : Nat)) := by
  show ((intsOf (l.map .int)).bind fun ns => if ns.length < 4000 then some ns else none).map _ = _
  rw [ints_map]
  show (if l.length < 4000 then some l else none).map _ = _
  rw [if_pos (by omega)]; rfl
theorem xLenSetT {l : List Int} (h : l.length ≤ 3000) : gLenSet (.tuple (l.map .int)) = some (.int ((sortSet l).length : Nat)) := xLenSetL h
theorem sortSet_len {l : List Int} : (sortSet l).length ≤ l.length := by
  induction l with
  | nil => exact Nat.le_refl _
  | cons a l ih =>
    have : ∀ (x : Int) (l : List Int), (insU x l).length ≤ l.length + 1 := fun x l => by
      induction l with
      | nil => exact Nat.le_refl _
      | cons y l ih =>
        unfold insU
        split
        · exact Nat.le_refl _
        · split
          · exact Nat.le_succ _
          · simp only [List.length_cons]; omega
    have := this a (sortSet l)
    rw [sortSet, List.length_cons]; omega
end
end DL

namespace LK
open PySem L2 PySem.Spec DL
/-! ### the data's side -/
/-- _law_state: 0 _law_script, 1 _law_cells, 2 _law_cell -/
def E__law_state_1 : Ef := (e1 gAbs (eVar 2))
def T__law_state_1 : Bf := (bT (e2 gGe (eVar 2) (e2 gPow (eC (.int 10)) (eC (.int 18)))))
def E__law_state_2 : Ef := (eVar 2)
def S__law_state : Sf := (sSeq (sAsg 1 (eLc (iSeq (eVar 0)) [2] (gNm 2) bYes E__law_state_1))
  (sRet (eLst (lCons (eLc (iSeq (eVar 1)) [2] (gNm 2) T__law_state_1 E__law_state_2) (lCons (e2 gAddL (eVar 1) (eLst (lCons (e2 gAdd (e1 gLen (eVar 1)) (eC (.int 7))) lNil))) (lCons (eC (.int 0)) lNil))))))
def F__law_state : DFn := runF S__law_state [.q] 2
/-- _law_draw: 0 _law_state_here, 1 _law_limit, 2 _law_rest, 3 _law_cell, 4 _law_mixed -/
def B__law_draw_1 : Sf := (sPost [2] [1, 2, 3, 4]
  (sSeq (sAsg 2 (eItm (gSub1 (qVar 0) (qC (.int 0))) (qC (.int 0))))
  (sSeq (sIf (bT (e2 gGt (eVar 2) (eC (.int 0))))
    (sSeq (sSet (gSub1 (qVar 0) (qC (.int 0))) (pSub1 (qVar 0) (qC (.int 0)) (pVar 0)) (qC (.int 0)) (e2 gFdiv (eVar 2) (eVar 1)))
  (sRet (e2 gMod (eVar 2) (eVar 1))))
    sNil)
  (sDrop (ePopAt (gSub1 (qVar 0) (qC (.int 0))) (pSub1 (qVar 0) (qC (.int 0)) (pVar 0)) (qC (.int 0)))))))
def W__law_draw_1 : Bf := (bQT (q2 gNe (q2 gIx (qVar 0) (qC (.int 0))) (qC (.list []))))
def S__law_draw : Sf := (sSeq (sPre [2] (sWh fuel W__law_draw_1
    B__law_draw_1))
  (sSeq (sSet (qVar 0) (pVar 0) (qC (.int 2)) (e2 gAdd (eQ (q2 gIx (qVar 0) (qC (.int 2)))) (eC (.int 1))))
  (sSeq (sAsg 3 (e2 gMod (eItm (gSub1 (qVar 0) (qC (.int 1))) (q2 gMod (q2 gIx (qVar 0) (qC (.int 2))) (q1 gLen (q2 gIx (qVar 0) (qC (.int 1)))))) (eC (.int 2147483629))))
  (sSeq (sAsg 4 (e2 gAdd (e2 gMul (eVar 3) (e2 gAdd (eC (.int 69621)) (e2 gMul (eC (.int 2)) (eQ (q2 gIx (qVar 0) (qC (.int 2))))))) (eC (.int 30011))))
  (sSeq (sAsg 4 (e2 gMod (e2 gAdd (eVar 4) (e2 gMul (e2 gMul (eC (.int 48271)) (eQ (q2 gIx (qVar 0) (qC (.int 2))))) (eQ (q2 gIx (qVar 0) (qC (.int 2)))))) (eC (.int 2147483587))))
  (sRet (e2 gMod (e2 gFdiv (e2 gMod (e2 gMul (eVar 4) (eVar 4)) (eC (.int 2147483563))) (eC (.int 16))) (eVar 1))))))))
def F__law_draw : DFn := runF S__law_draw [(.r [(.l .s), (.l .s), .s]), .s] 3
/-- _law_pick: 0 _law_state_here, 1 _law_items -/
def S__law_pick : Sf := (sRet (eItmG 1 (eCallL F__law_draw 0 0 (lCons eLend (lCons (eQ (q1 gLen (qVar 1))) lNil)))))
def F__law_pick : DFn := runF S__law_pick [(.r [(.l .s), (.l .s), .s]), (.l .s)] 0
/-- _law_roster: 0 _law_state_here, 1 _law_people, 2 _law_most, 3 _law_teachers, 4 _law_groups, 5 _law_kind, 6 _law_lessons, 7 _law_k, 8 _law_lesson -/
def B__law_roster_1 : Sf := (sPost [7, 8] [1, 2, 3, 4, 5, 6, 7, 8]
  (sSeq (sAsg 8 (eTup (lCons (eCallL F__law_draw 0 0 (lCons eLend (lCons (eVar 3) lNil))) (lCons (eCallL F__law_draw 0 0 (lCons eLend (lCons (eVar 4) lNil))) lNil))))
  (sSeq (sIf (bAnd (bT (e2 gEq (eVar 5) (eC (.int 1)))) (bT (e2 gEq (eCallL F__law_draw 0 0 (lCons eLend (lCons (eC (.int 2)) lNil))) (eC (.int 0)))))
    (sAsg 8 (eTup (lCons (eC (.int 0)) (lCons (e2 gIx (eVar 8) (eC (.int 1))) lNil))))
    sNil)
  (sSeq (sIf (bAnd (bT (e2 gEq (eVar 5) (eC (.int 2)))) (bT (e2 gEq (eCallL F__law_draw 0 0 (lCons eLend (lCons (eC (.int 2)) lNil))) (eC (.int 0)))))
    (sAsg 8 (eTup (lCons (e2 gIx (eVar 8) (eC (.int 0))) (lCons (e2 gSub (eVar 4) (eC (.int 1))) lNil))))
    sNil)
  (sSeq (sIf (bAnd (bT (e2 gEq (eVar 5) (eC (.int 3)))) (bAnd (bQT (q2 gNe (qVar 6) (qC (.list [])))) (bT (e2 gEq (eCallL F__law_draw 0 0 (lCons eLend (lCons (eC (.int 3)) lNil))) (eC (.int 0))))))
    (sAsg 8 (eCallL2 F__law_pick 0 0 1 6 (lCons eLend (lCons eLend lNil))))
    sNil)
  (sDrop (eApp 6 (eVar 8))))))))
def S__law_roster : Sf := (sSeq (sPar 3 4 (lCons (e2 gAdd (eC (.int 1)) (eCallL F__law_draw 0 0 (lCons eLend (lCons (eVar 1) lNil)))) (lCons (e2 gAdd (eC (.int 1)) (eCallL F__law_draw 0 0 (lCons eLend (lCons (eVar 1) lNil)))) lNil)))
  (sSeq (sPar 5 6 (lCons (eCallL F__law_draw 0 0 (lCons eLend (lCons (eC (.int 4)) lNil))) (lCons (eLst lNil) lNil)))
  (sSeq (sFor (iFg [7, 8] (iR1 (eCallL F__law_draw 0 0 (lCons eLend (lCons (e2 gAdd (eVar 2) (eC (.int 1))) lNil))))) (gNm 7)
    B__law_roster_1)
  (sRet (eTup (lCons (eVar 3) (lCons (eVar 4) (lCons (e1 gTuple (eVar 6)) lNil))))))))
def F__law_roster : DFn := runF S__law_roster [(.r [(.l .s), (.l .s), .s]), .s, .s] 6
/-- _law_share: 0 _law_roster_here, 1 _law_one, 2 _law_other -/
def S__law_share : Sf := (sRet (eOr (e2 gEq (e2 gIx (e2 gIx (e2 gIx (eVar 0) (eC (.int 2))) (eVar 1)) (eC (.int 0))) (e2 gIx (e2 gIx (e2 gIx (eVar 0) (eC (.int 2))) (eVar 2)) (eC (.int 0)))) (e2 gEq (e2 gIx (e2 gIx (e2 gIx (eVar 0) (eC (.int 2))) (eVar 1)) (eC (.int 1))) (e2 gIx (e2 gIx (e2 gIx (eVar 0) (eC (.int 2))) (eVar 2)) (eC (.int 1))))))
def F__law_share : DFn := runF S__law_share [.s, .s, .s] 0
/-- _law_same: 0 _law_found, 1 _law_due -/
def S__law_same : Sf := (sRet (e2 gEq (e1 gRepr (eVar 0)) (e1 gRepr (eVar 1))))
def F__law_same : DFn := runF S__law_same [.s, .s] 0
/-- are_rivals: 0 roster, 1 one, 2 other, 3 first, 4 second -/
def S_are_rivals : Sf := (sSeq (sPar 3 4 (lCons (e2 gIx (e2 gIx (eVar 0) (eC (.int 2))) (eVar 1)) (lCons (e2 gIx (e2 gIx (eVar 0) (eC (.int 2))) (eVar 2)) lNil)))
  (sRet (eAnd (e2 gNe (eVar 1) (eVar 2)) (eOr (e2 gEq (e2 gIx (eVar 3) (eC (.int 0))) (e2 gIx (eVar 4) (eC (.int 0)))) (e2 gEq (e2 gIx (eVar 3) (eC (.int 1))) (e2 gIx (eVar 4) (eC (.int 1))))))))
def F_are_rivals : DFn := runF S_are_rivals [.s, .s, .s] 2
/-- rivals: 0 roster, 1 lesson, 2 other -/
def T_rivals_1 : Bf := (bOf (eCall F_are_rivals (lCons (eVar 0) (lCons (eVar 1) (lCons (eVar 2) lNil)))))
def E_rivals_1 : Ef := (eVar 2)
def S_rivals : Sf := (sRet (e1 gTuple (eLc (iR1 (e1 gLen (e2 gIx (eVar 0) (eC (.int 2))))) [2] (gNm 2) T_rivals_1 E_rivals_1)))
def F_rivals : DFn := runF S_rivals [.s, .s] 1
/-- component_of: 0 roster, 1 first, 2 reached, 3 waiting, 4 more, 5 other -/
def T_component_of_1 : Bf := (bQT (q2 gNotIn (qVar 5) (qVar 2)))
def E_component_of_1 : Ef := (eVar 5)
def B_component_of_1 : Sf := (sPost [4] [0, 1, 2, 3, 4, 5]
  (sSeq (sAsg 4 (eLc (iSeq (eCall F_rivals (lCons (eVar 0) (lCons (ePop (qVar 3) (pVar 3)) lNil)))) [5] (gNm 5) T_component_of_1 E_component_of_1))
  (sSeq (sDrop (eExtV 2 4))
  (sDrop (eExtV 3 4)))))
def W_component_of_1 : Bf := (bQT (q2 gNe (qVar 3) (qC (.list []))))
def S_component_of : Sf := (sSeq (sPar 2 3 (lCons (eLst (lCons (eVar 1) lNil)) (lCons (eLst (lCons (eVar 1) lNil)) lNil)))
  (sSeq (sPre [4] (sWh fuel W_component_of_1
    B_component_of_1))
  (sRet (e1 gTuple (e1 gSorted (eVar 2))))))
def F_component_of : DFn := runF S_component_of [.s, .s] 4
/-- lesson_components: 0 roster, 1 seen, 2 found, 3 first, 4 component, 5 lesson -/
def B_lesson_components_1 : Sf := (sPost [3, 4] [0, 1, 2, 3, 4, 5]
  (sIf (bT (eDOp gDNotIn 1 (eVar 3)))
    (sSeq (sAsg 4 (eCall F_component_of (lCons (eVar 0) (lCons (eVar 3) lNil))))
  (sSeq (sDrop (eUpdT 1 (eVar 4)))
  (sDrop (eApp 2 (eVar 4)))))
    sNil))
def S_lesson_components : Sf := (sSeq (sPar 1 2 (lCons (eC (.dict [])) (lCons (eLst lNil) lNil)))
  (sSeq (sFor (iFg [3, 4] (iR1 (e1 gLen (e2 gIx (eVar 0) (eC (.int 2)))))) (gNm 3)
    B_lesson_components_1)
  (sRet (e1 gTuple (eVar 2)))))
def F_lesson_components : DFn := runF S_lesson_components [.s] 5
/-- _law_classes: 0 _law_roster_here, 1 _law_number, 2 _law_turn, 3 _law_one, 4 _law_other, 5 _law_low, 6 _law_found, 7 _law_first -/
def B__law_classes_1 : Sf := (sPost [4, 5] [0, 1, 2, 3, 4, 5, 6, 7]
  (sIf (bOf (eCall F__law_share (lCons (eVar 0) (lCons (eVar 3) (lCons (eVar 4) lNil)))))
    (sSeq (sAsg 5 (e2 gMin2 (eItm (qVar 1) (qVar 3)) (eItm (qVar 1) (qVar 4))))
  (sTg (eTup (lCons (eVar 5) (lCons (eVar 5) lNil))) (gTp 2 (gsCons (gItm 1 (qVar 3)) (gsCons (gItm 1 (qVar 4)) gsNil)))))
    sNil))
def B__law_classes_2 : Sf := (sPost [4, 5] [0, 1, 2, 3, 4, 5, 6, 7]
  (sFor (iFg [4, 5] (iR1 (eVar 3))) (gNm 4)
    B__law_classes_1))
def B__law_classes_3 : Sf := (sPost [2, 4, 5] [0, 1, 2, 3, 4, 5, 6, 7]
  (sFor (iFg [4, 5] (iR1 (eQ (q1 gLen (qVar 1))))) (gNm 3)
    B__law_classes_2))
def T__law_classes_1 : Bf := (bT (e2 gEq (e2 gIx (eVar 1) (eVar 3)) (eVar 7)))
def E__law_classes_1 : Ef := (eVar 3)
def E__law_classes_2 : Ef := (e1 gTuple (eLc (iR1 (e1 gLen (eVar 1))) [3] (gNm 3) T__law_classes_1 E__law_classes_1))
def S__law_classes : Sf := (sSeq (sAsg 1 (eLsR (iR1 (e1 gLen (e2 gIx (eVar 0) (eC (.int 2)))))))
  (sSeq (sFor (iFg [2, 4, 5] (iR1 (eQ (q1 gLen (qVar 1))))) (gNm 2)
    B__law_classes_3)
  (sSeq (sAsg 6 (eLc (iSeq (e1 gSortSet (eVar 1))) [7] (gNm 7) bYes E__law_classes_2))
  (sRet (e1 gTuple (eVar 6))))))
def F__law_classes : DFn := runF S__law_classes [.s] 7
/-- law: 0 _law_script, 1 _law_state_here, 2 _law_turn, 3 _law_roster_here, 4 _law_kept, 5 _law_lesson, 6 _law_due, 7 _law_one -/
def T_law_1 : Bf := (bAnd (bT (e2 gNe (eVar 7) (eVar 5))) (bOf (eCall F__law_share (lCons (eVar 3) (lCons (eVar 7) (lCons (eVar 5) lNil))))))
def E_law_1 : Ef := (eVar 7)
def B_law_1 : Sf := (sPost [5, 6] [0, 1, 2, 3, 4, 5, 6, 7]
  (sSeq (sAsg 6 (eLc (iR1 (e1 gLen (e2 gIx (eVar 3) (eC (.int 2))))) [7] (gNm 7) T_law_1 E_law_1))
  (sIf (bNot (bOf (eCall F__law_same (lCons (eCall F_rivals (lCons (eVar 3) (lCons (eVar 5) lNil))) (lCons (e1 gTuple (eVar 6)) lNil)))))
    (sRet (eC (.bool false)))
    sNil)))
def B_law_2 : Sf := (sPost [2, 3, 4, 5, 6] [0, 1, 2, 3, 4, 5, 6, 7]
  (sSeq (sAsg 3 (eCallL F__law_roster 0 1 (lCons eLend (lCons (eC (.int 8)) (lCons (eC (.int 16)) lNil)))))
  (sSeq (sAsg 4 (e1 gRepr (eVar 3)))
  (sSeq (sFor (iFg [5, 6] (iR1 (e1 gLen (e2 gIx (eVar 3) (eC (.int 2)))))) (gNm 5)
    B_law_1)
  (sIf (bOr (bNot (bOf (eCall F__law_same (lCons (eCall F_lesson_components (lCons (eVar 3) lNil)) (lCons (eCall F__law_classes (lCons (eVar 3) lNil)) lNil))))) (bT (e2 gNe (e1 gRepr (eVar 3)) (eVar 4))))
    (sRet (eC (.bool false)))
    sNil)))))
def S_law : Sf := (sSeq (sAsg 1 (eCallL F__law_state 0 0 (lCons eLend lNil)))
  (sSeq (sFor (iFg [2, 3, 4, 5, 6] (iR1 (eC (.int 6)))) (gNm 2)
    B_law_2)
  (sRet (eC (.bool true)))))
def F_law : DFn := runF S_law [.q] 7
end LK

namespace LK
open PySem L2 PySem.Spec DL
/-! ### plain words -/
def C__law_state_1 (d : PyData) : Option (PyData) :=
(gAbs d).bind fun v2 =>
some v2
theorem C__law_state_1_eq (script cells cell : PyData) (xs : List PyData) : lcL [2] (gNm 2) bYes E__law_state_1 xs [script, cells, cell] = (mapS xs (C__law_state_1)).bind fun r => some (r, [script, cells, cell]) :=
  lc_map (vs := [2]) (gf := (gNm 2)) (ef := E__law_state_1) (C__law_state_1) (fun d => by simp -implicitDefEqProofs [E__law_state_1, C__law_state_1, ite_bind', ifB_bind, thenS_bind, Option.bind_assoc]) xs
def C__law_state_2 (d : PyData) : Option (Option PyData) :=
(gPow (.int 10) (.int 18)).bind fun v5 =>
(gGe d v5).bind fun v6 =>
(asB v6).bind fun v7 =>
if v7 = true then (some (some d)) else (some none)
theorem C__law_state_2_eq (script cells cell : PyData) (xs : List PyData) : lcL [2] (gNm 2) T__law_state_1 E__law_state_2 xs [script, cells, cell] = (filS xs (C__law_state_2)).bind fun r => some (r, [script, cells, cell]) :=
  lc_fil (vs := [2]) (gf := (gNm 2)) (tf := T__law_state_1) (ef := E__law_state_2) (C__law_state_2) (fun d => by simp -implicitDefEqProofs [T__law_state_1, E__law_state_2, C__law_state_2, ite_bind', ifB_bind, thenS_bind, Option.bind_assoc]) xs
def f__law_state (script : PyData) : Option PyData :=
(seqD script).bind fun v1 =>
(mapS v1 (C__law_state_1)).bind fun v3 =>
(seqD (.list v3)).bind fun v4 =>
(filS v4 (C__law_state_2)).bind fun v8 =>
(gLen (.list v3)).bind fun v9 =>
(gAdd v9 (.int 7)).bind fun v10 =>
(gAddL (.list v3) (.list [v10])).bind fun v11 =>
some (.list [(.list v8), v11, (.int 0)])
theorem f__law_state_eq (script : PyData) : F__law_state [script] = (f__law_state script).bind fun r => some (r, [script]) := by
  simp -implicitDefEqProofs [F__law_state, S__law_state, f__law_state, C__law_state_1_eq, C__law_state_2_eq, ite_bind', ifB_bind, thenS_bind, Option.bind_assoc]
def WL__law_draw_1 (s : PyData) : Option Bool :=
(gIx s (.int 0)).bind fun v11 =>
(gNe v11 (.list [])).bind fun v12 =>
(asB v12).bind fun v13 =>
some v13
def L__law_draw_1 (limit : PyData) (s : PyData) : Option (Out × PyData) :=
(itemD s (.int 0)).bind fun v1 =>
(itemD v1 (.int 0)).bind fun v2 =>
(gGt v2 (.int 0)).bind fun v3 =>
(asB v3).bind fun v4 =>
if v4 = true then ((gFdiv v2 limit).bind fun v5 =>
(itemD s (.int 0)).bind fun v6 =>
(gSet v6 (.int 0) v5).bind fun v7 =>
(gMod v2 limit).bind fun v8 =>
some (.rt v8, (setD s (.int 0) v7))) else ((itemD s (.int 0)).bind fun v9 =>
(gPopAt v9 (.int 0)).bind fun v10 =>
some (.nx, (setD s (.int 0) v10.2)))
theorem L__law_draw_1_eq (state_here limit cell mixed : PyData) (n : Nat) : whL W__law_draw_1 B__law_draw_1 n [state_here, limit, .none, cell, mixed] = (whR n (WL__law_draw_1) (L__law_draw_1 limit) state_here).bind fun r => thenS r (fun s' => some (.nx, [s', limit, .none, cell, mixed])) (fun d s' => some (.rt d, [s', .none, .none, .none, .none])) :=
  wh_ret (cf := W__law_draw_1) (sf := B__law_draw_1) (jr := [1, 2, 3, 4]) (fun s : PyData => [s, limit, .none, cell, mixed]) (WL__law_draw_1) (L__law_draw_1 limit) (fun s => by simp -implicitDefEqProofs [W__law_draw_1, WL__law_draw_1, ite_bind', ifB_bind, thenS_bind, Option.bind_assoc]) (fun s => by simp -implicitDefEqProofs [B__law_draw_1, L__law_draw_1, ite_bind', ifB_bind, thenS_bind, Option.bind_assoc]) n state_here
def f__law_draw (state_here limit : PyData) : Option (PyData × PyData) :=
(whR fuel (WL__law_draw_1) (L__law_draw_1 limit) state_here).bind fun v14 =>
thenS v14 (fun s15 =>
(gIx s15 (.int 2)).bind fun v16 =>
(grd (scD v16)).bind fun _ =>
(gAdd v16 (.int 1)).bind fun v17 =>
(gSet s15 (.int 2) v17).bind fun v18 =>
(itemD v18 (.int 1)).bind fun v19 =>
(gIx v18 (.int 2)).bind fun v20 =>
(gIx v18 (.int 1)).bind fun v21 =>
(gLen v21).bind fun v22 =>
(gMod v20 v22).bind fun v23 =>
(itemD v19 v23).bind fun v24 =>
(gMod v24 (.int 2147483629)).bind fun v25 =>
(gIx v18 (.int 2)).bind fun v26 =>
(grd (scD v26)).bind fun _ =>
(gMul (.int 2) v26).bind fun v27 =>
(gAdd (.int 69621) v27).bind fun v28 =>
(gMul v25 v28).bind fun v29 =>
(gAdd v29 (.int 30011)).bind fun v30 =>
(gIx v18 (.int 2)).bind fun v31 =>
(grd (scD v31)).bind fun _ =>
(gMul (.int 48271) v31).bind fun v32 =>
(gIx v18 (.int 2)).bind fun v33 =>
(grd (scD v33)).bind fun _ =>
(gMul v32 v33).bind fun v34 =>
(gAdd v30 v34).bind fun v35 =>
(gMod v35 (.int 2147483587)).bind fun v36 =>
(gMul v36 v36).bind fun v37 =>
(gMod v37 (.int 2147483563)).bind fun v38 =>
(gFdiv v38 (.int 16)).bind fun v39 =>
(gMod v39 limit).bind fun v40 =>
some (v40, v18)) (fun d42 s41 => some (d42, s41))
theorem f__law_draw_eq (state_here limit : PyData) : F__law_draw [state_here, limit] = (f__law_draw state_here limit).bind fun r => some (r.1, [r.2, limit]) := by
  simp -implicitDefEqProofs [F__law_draw, S__law_draw, f__law_draw, L__law_draw_1_eq, ite_bind', ifB_bind, thenS_bind, Option.bind_assoc]
def f__law_pick (state_here items : PyData) : Option (PyData × PyData × PyData) :=
(gLen items).bind fun v1 =>
(grd (scD v1)).bind fun _ =>
(f__law_draw state_here v1).bind fun v2 =>
(itemD items v2.1).bind fun v3 =>
some (v3, v2.2, items)
theorem f__law_pick_eq (state_here items : PyData) : F__law_pick [state_here, items] = (f__law_pick state_here items).bind fun r => some (r.1, [r.2.1, r.2.2]) := by
  simp -implicitDefEqProofs [F__law_pick, S__law_pick, f__law_pick, f__law_draw_eq, ite_bind', ifB_bind, thenS_bind, Option.bind_assoc]
def L__law_roster_1 (teachers groups kind : PyData) (d : PyData) (s : PyData × PyData) : Option (PyData × PyData) :=
(f__law_draw s.1 teachers).bind fun v9 =>
(f__law_draw v9.2 groups).bind fun v10 =>
(gEq kind (.int 1)).bind fun v11 =>
(asB v11).bind fun v12 =>
(if v12 = true then ((f__law_draw v10.2 (.int 2)).bind fun v13 =>
(gEq v13.1 (.int 0)).bind fun v14 =>
(asB v14).bind fun v15 =>
some (v15, v13.2)) else (some (false, v10.2))).bind fun v16 =>
(if v16.1 = true then ((gIx (.tuple [v9.1, v10.1]) (.int 1)).bind fun v17 =>
some (.tuple [(.int 0), v17])) else (some (.tuple [v9.1, v10.1]))).bind fun v18 =>
(gEq kind (.int 2)).bind fun v19 =>
(asB v19).bind fun v20 =>
(if v20 = true then ((f__law_draw v16.2 (.int 2)).bind fun v21 =>
(gEq v21.1 (.int 0)).bind fun v22 =>
(asB v22).bind fun v23 =>
some (v23, v21.2)) else (some (false, v16.2))).bind fun v24 =>
(if v24.1 = true then ((gIx v18 (.int 0)).bind fun v25 =>
(gSub groups (.int 1)).bind fun v26 =>
some (.tuple [v25, v26])) else (some v18)).bind fun v27 =>
(gEq kind (.int 3)).bind fun v28 =>
(asB v28).bind fun v29 =>
(if v29 = true then ((gNe s.2 (.list [])).bind fun v30 =>
(asB v30).bind fun v31 =>
(if v31 = true then ((f__law_draw v24.2 (.int 3)).bind fun v32 =>
(gEq v32.1 (.int 0)).bind fun v33 =>
(asB v33).bind fun v34 =>
some (v34, v32.2)) else (some (false, v24.2))).bind fun v35 =>
some (v35.1, v35.2)) else (some (false, v24.2))).bind fun v36 =>
(if v36.1 = true then ((f__law_pick v36.2 s.2).bind fun v37 =>
some (v37.2.1, v37.2.2, v37.1)) else (some (v36.2, s.2, v27))).bind fun v38 =>
(gApp v38.2.1 v38.2.2).bind fun lessons39 =>
some (v38.1, lessons39)
theorem L__law_roster_1_eq (state_here people most teachers groups kind lessons : PyData) (xs : List PyData) : forL (gNm 7) B__law_roster_1 xs [state_here, people, most, teachers, groups, kind, lessons, .none, .none] = (foldS xs (L__law_roster_1 teachers groups kind) (state_here, lessons)).bind fun r => some (.nx, [r.1, people, most, teachers, groups, kind, r.2, .none, .none]) :=
  for_fold (gf := (gNm 7)) (sf := B__law_roster_1) (fun s : PyData × PyData => [s.1, people, most, teachers, groups, kind, s.2, .none, .none]) (L__law_roster_1 teachers groups kind) (fun d s => by simp -implicitDefEqProofs [B__law_roster_1, L__law_roster_1, f__law_draw_eq, f__law_pick_eq, ite_bind', ifB_bind, thenS_bind, Option.bind_assoc]) xs (state_here, lessons)
def f__law_roster (state_here people most : PyData) : Option (PyData × PyData) :=
(f__law_draw state_here people).bind fun v1 =>
(gAdd (.int 1) v1.1).bind fun v2 =>
(f__law_draw v1.2 people).bind fun v3 =>
(gAdd (.int 1) v3.1).bind fun v4 =>
(f__law_draw v3.2 (.int 4)).bind fun v5 =>
(gAdd most (.int 1)).bind fun v6 =>
(f__law_draw v5.2 v6).bind fun v7 =>
(rng1 v7.1).bind fun v8 =>
(foldS v8 (L__law_roster_1 v2 v4 v5.1) (v7.2, (.list []))).bind fun v40 =>
(gTuple v40.2).bind fun v41 =>
some ((.tuple [v2, v4, v41]), v40.1)
theorem f__law_roster_eq (state_here people most : PyData) : F__law_roster [state_here, people, most] = (f__law_roster state_here people most).bind fun r => some (r.1, [r.2, people, most]) := by
  simp -implicitDefEqProofs [F__law_roster, S__law_roster, f__law_roster, L__law_roster_1_eq, f__law_draw_eq, f__law_pick_eq, ite_bind', ifB_bind, thenS_bind, Option.bind_assoc]
def f__law_share (roster_here one other : PyData) : Option PyData :=
(gIx roster_here (.int 2)).bind fun v1 =>
(gIx v1 one).bind fun v2 =>
(gIx v2 (.int 0)).bind fun v3 =>
(gIx roster_here (.int 2)).bind fun v4 =>
(gIx v4 other).bind fun v5 =>
(gIx v5 (.int 0)).bind fun v6 =>
(gEq v3 v6).bind fun v7 =>
(ifB v7 ((some (.bool true))) (((gIx roster_here (.int 2)).bind fun v8 =>
(gIx v8 one).bind fun v9 =>
(gIx v9 (.int 1)).bind fun v10 =>
(gIx roster_here (.int 2)).bind fun v11 =>
(gIx v11 other).bind fun v12 =>
(gIx v12 (.int 1)).bind fun v13 =>
(gEq v10 v13).bind fun v14 =>
some v14))).bind fun v15 =>
some v15
theorem f__law_share_eq (roster_here one other : PyData) : F__law_share [roster_here, one, other] = (f__law_share roster_here one other).bind fun r => some (r, [roster_here, one, other]) := by
  simp -implicitDefEqProofs [F__law_share, S__law_share, f__law_share, ite_bind', ifB_bind, thenS_bind, Option.bind_assoc]
def f__law_same (found due : PyData) : Option PyData :=
(gRepr found).bind fun v1 =>
(gRepr due).bind fun v2 =>
(gEq v1 v2).bind fun v3 =>
some v3
theorem f__law_same_eq (found due : PyData) : F__law_same [found, due] = (f__law_same found due).bind fun r => some (r, [found, due]) := by
  simp -implicitDefEqProofs [F__law_same, S__law_same, f__law_same, ite_bind', ifB_bind, thenS_bind, Option.bind_assoc]
def f_are_rivals (roster one other : PyData) : Option PyData :=
(gIx roster (.int 2)).bind fun v1 =>
(gIx v1 one).bind fun v2 =>
(gIx roster (.int 2)).bind fun v3 =>
(gIx v3 other).bind fun v4 =>
(gNe one other).bind fun v5 =>
(ifB v5 (((gIx v2 (.int 0)).bind fun v6 =>
(gIx v4 (.int 0)).bind fun v7 =>
(gEq v6 v7).bind fun v8 =>
(ifB v8 ((some (.bool true))) (((gIx v2 (.int 1)).bind fun v9 =>
(gIx v4 (.int 1)).bind fun v10 =>
(gEq v9 v10).bind fun v11 =>
some v11))).bind fun v12 =>
some v12)) ((some (.bool false)))).bind fun v13 =>
some v13
theorem f_are_rivals_eq (roster one other : PyData) : F_are_rivals [roster, one, other] = (f_are_rivals roster one other).bind fun r => some (r, [roster, one, other]) := by
  simp -implicitDefEqProofs [F_are_rivals, S_are_rivals, f_are_rivals, ite_bind', ifB_bind, thenS_bind, Option.bind_assoc]
def C_rivals_1 (roster lesson : PyData) (d : PyData) : Option (Option PyData) :=
(f_are_rivals roster lesson d).bind fun v4 =>
(gTruth v4).bind fun v5 =>
if v5 = true then (some (some d)) else (some none)
theorem C_rivals_1_eq (roster lesson other : PyData) (xs : List PyData) : lcL [2] (gNm 2) T_rivals_1 E_rivals_1 xs [roster, lesson, other] = (filS xs (C_rivals_1 roster lesson)).bind fun r => some (r, [roster, lesson, other]) :=
  lc_fil (vs := [2]) (gf := (gNm 2)) (tf := T_rivals_1) (ef := E_rivals_1) (C_rivals_1 roster lesson) (fun d => by simp -implicitDefEqProofs [T_rivals_1, E_rivals_1, C_rivals_1, f_are_rivals_eq, ite_bind', ifB_bind, thenS_bind, Option.bind_assoc]) xs
def f_rivals (roster lesson : PyData) : Option PyData :=
(gIx roster (.int 2)).bind fun v1 =>
(gLen v1).bind fun v2 =>
(rng1 v2).bind fun v3 =>
(filS v3 (C_rivals_1 roster lesson)).bind fun v6 =>
(gTuple (.list v6)).bind fun v7 =>
some v7
theorem f_rivals_eq (roster lesson : PyData) : F_rivals [roster, lesson] = (f_rivals roster lesson).bind fun r => some (r, [roster, lesson]) := by
  simp -implicitDefEqProofs [F_rivals, S_rivals, f_rivals, C_rivals_1_eq, f_are_rivals_eq, ite_bind', ifB_bind, thenS_bind, Option.bind_assoc]
def C_component_of_1 (reached : PyData) (d : PyData) : Option (Option PyData) :=
(gNotIn d reached).bind fun v4 =>
(asB v4).bind fun v5 =>
if v5 = true then (some (some d)) else (some none)
theorem C_component_of_1_eq (roster first reached waiting more other : PyData) (xs : List PyData) : lcL [5] (gNm 5) T_component_of_1 E_component_of_1 xs [roster, first, reached, waiting, more, other] = (filS xs (C_component_of_1 reached)).bind fun r => some (r, [roster, first, reached, waiting, more, other]) :=
  lc_fil (vs := [5]) (gf := (gNm 5)) (tf := T_component_of_1) (ef := E_component_of_1) (C_component_of_1 reached) (fun d => by simp -implicitDefEqProofs [T_component_of_1, E_component_of_1, C_component_of_1, ite_bind', ifB_bind, thenS_bind, Option.bind_assoc]) xs
def WL_component_of_1 (s : PyData × PyData) : Option Bool :=
(gNe s.2 (.list [])).bind fun v9 =>
(asB v9).bind fun v10 =>
some v10
def L_component_of_1 (roster : PyData) (s : PyData × PyData) : Option (PyData × PyData) :=
(gPop s.2).bind fun v1 =>
(f_rivals roster v1.1).bind fun v2 =>
(seqD v2).bind fun v3 =>
(filS v3 (C_component_of_1 s.1)).bind fun v6 =>
(gExt s.1 (.list v6)).bind fun v7 =>
(gExt v1.2 (.list v6)).bind fun v8 =>
some (v7, v8)
theorem L_component_of_1_eq (roster first reached waiting other : PyData) (n : Nat) : whL W_component_of_1 B_component_of_1 n [roster, first, reached, waiting, .none, other] = (whS n (WL_component_of_1) (L_component_of_1 roster) (reached, waiting)).bind fun r => some (.nx, [roster, first, r.1, r.2, .none, other]) :=
  wh_fold (cf := W_component_of_1) (sf := B_component_of_1) (fun s : PyData × PyData => [roster, first, s.1, s.2, .none, other]) (WL_component_of_1) (L_component_of_1 roster) (fun s => by simp -implicitDefEqProofs [W_component_of_1, WL_component_of_1, C_component_of_1_eq, f_rivals_eq, ite_bind', ifB_bind, thenS_bind, Option.bind_assoc]) (fun s => by simp -implicitDefEqProofs [B_component_of_1, L_component_of_1, C_component_of_1_eq, f_rivals_eq, ite_bind', ifB_bind, thenS_bind, Option.bind_assoc]) n (reached, waiting)
def f_component_of (roster first : PyData) : Option PyData :=
(whS fuel (WL_component_of_1) (L_component_of_1 roster) ((.list [first]), (.list [first]))).bind fun v11 =>
(gSorted v11.1).bind fun v12 =>
(gTuple v12).bind fun v13 =>
some v13
theorem f_component_of_eq (roster first : PyData) : F_component_of [roster, first] = (f_component_of roster first).bind fun r => some (r, [roster, first]) := by
  simp -implicitDefEqProofs [F_component_of, S_component_of, f_component_of, L_component_of_1_eq, f_rivals_eq, ite_bind', ifB_bind, thenS_bind, Option.bind_assoc]
def L_lesson_components_1 (roster : PyData) (d : PyData) (s : PyData × PyData) : Option (PyData × PyData) :=
(gDNotIn s.1 d).bind fun v4 =>
(asB v4).bind fun v5 =>
if v5 = true then ((f_component_of roster d).bind fun v6 =>
(gUpdT s.1 v6).bind fun v7 =>
(gApp s.2 v6).bind fun found8 =>
some (v7, found8)) else (some (s.1, s.2))
theorem L_lesson_components_1_eq (roster seen found lesson : PyData) (xs : List PyData) : forL (gNm 3) B_lesson_components_1 xs [roster, seen, found, .none, .none, lesson] = (foldS xs (L_lesson_components_1 roster) (seen, found)).bind fun r => some (.nx, [roster, r.1, r.2, .none, .none, lesson]) :=
  for_fold (gf := (gNm 3)) (sf := B_lesson_components_1) (fun s : PyData × PyData => [roster, s.1, s.2, .none, .none, lesson]) (L_lesson_components_1 roster) (fun d s => by simp -implicitDefEqProofs [B_lesson_components_1, L_lesson_components_1, f_component_of_eq, ite_bind', ifB_bind, thenS_bind, Option.bind_assoc]) xs (seen, found)
def f_lesson_components (roster : PyData) : Option PyData :=
(gIx roster (.int 2)).bind fun v1 =>
(gLen v1).bind fun v2 =>
(rng1 v2).bind fun v3 =>
(foldS v3 (L_lesson_components_1 roster) ((.dict []), (.list []))).bind fun v9 =>
(gTuple v9.2).bind fun v10 =>
some v10
theorem f_lesson_components_eq (roster : PyData) : F_lesson_components [roster] = (f_lesson_components roster).bind fun r => some (r, [roster]) := by
  simp -implicitDefEqProofs [F_lesson_components, S_lesson_components, f_lesson_components, L_lesson_components_1_eq, f_component_of_eq, ite_bind', ifB_bind, thenS_bind, Option.bind_assoc]
def L__law_classes_3 (roster_here one : PyData) (d : PyData) (s : PyData) : Option PyData :=
(f__law_share roster_here one d).bind fun v9 =>
(gTruth v9).bind fun v10 =>
if v10 = true then ((itemD s one).bind fun v11 =>
(itemD s d).bind fun v12 =>
(gMin2 v11 v12).bind fun v13 =>
(un2 (.tuple [v13, v13])).bind fun v14 =>
(gSet s one v14.1).bind fun number15 =>
(gSet number15 d v14.2).bind fun number16 =>
some number16) else (some s)
theorem L__law_classes_3_eq (roster_here number turn one found first : PyData) (xs : List PyData) : forL (gNm 4) B__law_classes_1 xs [roster_here, number, turn, one, .none, .none, found, first] = (foldS xs (L__law_classes_3 roster_here one) number).bind fun r => some (.nx, [roster_here, r, turn, one, .none, .none, found, first]) :=
  for_fold (gf := (gNm 4)) (sf := B__law_classes_1) (fun s : PyData => [roster_here, s, turn, one, .none, .none, found, first]) (L__law_classes_3 roster_here one) (fun d s => by simp -implicitDefEqProofs [B__law_classes_1, L__law_classes_3, f__law_share_eq, ite_bind', ifB_bind, thenS_bind, Option.bind_assoc]) xs number
def L__law_classes_2 (roster_here : PyData) (d : PyData) (s : PyData × PyData) : Option (PyData × PyData) :=
(rng1 d).bind fun v8 =>
(foldS v8 (L__law_classes_3 roster_here d) s.1).bind fun v17 =>
some (v17, d)
theorem L__law_classes_2_eq (roster_here number turn one found first : PyData) (xs : List PyData) : forL (gNm 3) B__law_classes_2 xs [roster_here, number, turn, one, .none, .none, found, first] = (foldS xs (L__law_classes_2 roster_here) (number, one)).bind fun r => some (.nx, [roster_here, r.1, turn, r.2, .none, .none, found, first]) :=
  for_fold (gf := (gNm 3)) (sf := B__law_classes_2) (fun s : PyData × PyData => [roster_here, s.1, turn, s.2, .none, .none, found, first]) (L__law_classes_2 roster_here) (fun d s => by simp -implicitDefEqProofs [B__law_classes_2, L__law_classes_2, L__law_classes_3_eq, f__law_share_eq, ite_bind', ifB_bind, thenS_bind, Option.bind_assoc]) xs (number, one)
def L__law_classes_1 (roster_here : PyData) (d : PyData) (s : PyData × PyData) : Option (PyData × PyData) :=
(gLen s.1).bind fun v6 =>
(grd (scD v6)).bind fun _ =>
(rng1 v6).bind fun v7 =>
(foldS v7 (L__law_classes_2 roster_here) (s.1, s.2)).bind fun v18 =>
some (v18.1, v18.2)
theorem L__law_classes_1_eq (roster_here number one found first : PyData) (xs : List PyData) : forL (gNm 2) B__law_classes_3 xs [roster_here, number, .none, one, .none, .none, found, first] = (foldS xs (L__law_classes_1 roster_here) (number, one)).bind fun r => some (.nx, [roster_here, r.1, .none, r.2, .none, .none, found, first]) :=
  for_fold (gf := (gNm 2)) (sf := B__law_classes_3) (fun s : PyData × PyData => [roster_here, s.1, .none, s.2, .none, .none, found, first]) (L__law_classes_1 roster_here) (fun d s => by simp -implicitDefEqProofs [B__law_classes_3, L__law_classes_1, L__law_classes_2_eq, f__law_share_eq, ite_bind', ifB_bind, thenS_bind, Option.bind_assoc]) xs (number, one)
def C__law_classes_2 (number first : PyData) (d : PyData) : Option (Option PyData) :=
(gIx number d).bind fun v24 =>
(gEq v24 first).bind fun v25 =>
(asB v25).bind fun v26 =>
if v26 = true then (some (some d)) else (some none)
theorem C__law_classes_2_eq (roster_here number turn one other low found first : PyData) (xs : List PyData) : lcL [3] (gNm 3) T__law_classes_1 E__law_classes_1 xs [roster_here, number, turn, one, other, low, found, first] = (filS xs (C__law_classes_2 number first)).bind fun r => some (r, [roster_here, number, turn, one, other, low, found, first]) :=
  lc_fil (vs := [3]) (gf := (gNm 3)) (tf := T__law_classes_1) (ef := E__law_classes_1) (C__law_classes_2 number first) (fun d => by simp -implicitDefEqProofs [T__law_classes_1, E__law_classes_1, C__law_classes_2, ite_bind', ifB_bind, thenS_bind, Option.bind_assoc]) xs
def C__law_classes_1 (number : PyData) (d : PyData) : Option (PyData) :=
(gLen number).bind fun v22 =>
(rng1 v22).bind fun v23 =>
(filS v23 (C__law_classes_2 number d)).bind fun v27 =>
(gTuple (.list v27)).bind fun v28 =>
some v28
theorem C__law_classes_1_eq (roster_here number turn one other low found first : PyData) (xs : List PyData) : lcL [7] (gNm 7) bYes E__law_classes_2 xs [roster_here, number, turn, one, other, low, found, first] = (mapS xs (C__law_classes_1 number)).bind fun r => some (r, [roster_here, number, turn, one, other, low, found, first]) :=
  lc_map (vs := [7]) (gf := (gNm 7)) (ef := E__law_classes_2) (C__law_classes_1 number) (fun d => by simp -implicitDefEqProofs [E__law_classes_2, C__law_classes_1, C__law_classes_2_eq, ite_bind', ifB_bind, thenS_bind, Option.bind_assoc]) xs
def f__law_classes (roster_here : PyData) : Option PyData :=
(gIx roster_here (.int 2)).bind fun v1 =>
(gLen v1).bind fun v2 =>
(rng1 v2).bind fun v3 =>
(gLen (.list v3)).bind fun v4 =>
(grd (scD v4)).bind fun _ =>
(rng1 v4).bind fun v5 =>
(foldS v5 (L__law_classes_1 roster_here) ((.list v3), .none)).bind fun v19 =>
(gSortSet v19.1).bind fun v20 =>
(seqD v20).bind fun v21 =>
(mapS v21 (C__law_classes_1 v19.1)).bind fun v29 =>
(gTuple (.list v29)).bind fun v30 =>
some v30
theorem f__law_classes_eq (roster_here : PyData) : F__law_classes [roster_here] = (f__law_classes roster_here).bind fun r => some (r, [roster_here]) := by
  simp -implicitDefEqProofs [F__law_classes, S__law_classes, f__law_classes, L__law_classes_1_eq, C__law_classes_1_eq, f__law_share_eq, ite_bind', ifB_bind, thenS_bind, Option.bind_assoc]
def C_law_1 (roster_here lesson : PyData) (d : PyData) : Option (Option PyData) :=
(gNe d lesson).bind fun v11 =>
(asB v11).bind fun v12 =>
(if v12 = true then ((f__law_share roster_here d lesson).bind fun v13 =>
(gTruth v13).bind fun v14 =>
some v14) else (some false)).bind fun v15 =>
if v15 = true then (some (some d)) else (some none)
theorem C_law_1_eq (script state_here turn roster_here kept lesson due one : PyData) (xs : List PyData) : lcL [7] (gNm 7) T_law_1 E_law_1 xs [script, state_here, turn, roster_here, kept, lesson, due, one] = (filS xs (C_law_1 roster_here lesson)).bind fun r => some (r, [script, state_here, turn, roster_here, kept, lesson, due, one]) :=
  lc_fil (vs := [7]) (gf := (gNm 7)) (tf := T_law_1) (ef := E_law_1) (C_law_1 roster_here lesson) (fun d => by simp -implicitDefEqProofs [T_law_1, E_law_1, C_law_1, f__law_share_eq, ite_bind', ifB_bind, thenS_bind, Option.bind_assoc]) xs
def L_law_2 (roster_here : PyData) (d : PyData) (s : Unit) : Option (Out × Unit) :=
(gIx roster_here (.int 2)).bind fun v8 =>
(gLen v8).bind fun v9 =>
(rng1 v9).bind fun v10 =>
(filS v10 (C_law_1 roster_here d)).bind fun v16 =>
(f_rivals roster_here d).bind fun v17 =>
(gTuple (.list v16)).bind fun v18 =>
(f__law_same v17 v18).bind fun v19 =>
(gTruth v19).bind fun v20 =>
if (!v20) = true then (some (.rt (.bool false), ())) else (some (.nx, ()))
theorem L_law_2_eq (script state_here turn roster_here kept one : PyData) (xs : List PyData) : forL (gNm 5) B_law_1 xs [script, state_here, turn, roster_here, kept, .none, .none, one] = (forS xs (L_law_2 roster_here) ()).bind fun r => thenS r (fun s' => some (.nx, [script, state_here, turn, roster_here, kept, .none, .none, one])) (fun d s' => some (.rt d, [.none, .none, .none, .none, .none, .none, .none, .none])) :=
  for_ret (gf := (gNm 5)) (sf := B_law_1) (jr := [0, 1, 2, 3, 4, 5, 6, 7]) (fun s : Unit => [script, state_here, turn, roster_here, kept, .none, .none, one]) (L_law_2 roster_here) (fun d s => by simp -implicitDefEqProofs [B_law_1, L_law_2, C_law_1_eq, f__law_share_eq, f__law_same_eq, f_rivals_eq, ite_bind', ifB_bind, thenS_bind, Option.bind_assoc]) xs ()
def L_law_1 (d : PyData) (s : PyData) : Option (Out × PyData) :=
(f__law_roster s (.int 8) (.int 16)).bind fun v3 =>
(gRepr v3.1).bind fun v4 =>
(gIx v3.1 (.int 2)).bind fun v5 =>
(gLen v5).bind fun v6 =>
(rng1 v6).bind fun v7 =>
(forS v7 (L_law_2 v3.1) ()).bind fun v21 =>
thenS v21 (fun s22 =>
(f_lesson_components v3.1).bind fun v23 =>
(f__law_classes v3.1).bind fun v24 =>
(f__law_same v23 v24).bind fun v25 =>
(gTruth v25).bind fun v26 =>
(if (!v26) = true then (some true) else ((gRepr v3.1).bind fun v27 =>
(gNe v27 v4).bind fun v28 =>
(asB v28).bind fun v29 =>
some v29)).bind fun v30 =>
if v30 = true then (some (.rt (.bool false), v3.2)) else (some (.nx, v3.2))) (fun d32 s31 => some (.rt d32, v3.2))
theorem L_law_1_eq (script state_here one : PyData) (xs : List PyData) : forL (gNm 2) B_law_2 xs [script, state_here, .none, .none, .none, .none, .none, one] = (forS xs (L_law_1) state_here).bind fun r => thenS r (fun s' => some (.nx, [script, s', .none, .none, .none, .none, .none, one])) (fun d s' => some (.rt d, [.none, .none, .none, .none, .none, .none, .none, .none])) :=
  for_ret (gf := (gNm 2)) (sf := B_law_2) (jr := [0, 1, 2, 3, 4, 5, 6, 7]) (fun s : PyData => [script, s, .none, .none, .none, .none, .none, one]) (L_law_1) (fun d s => by simp -implicitDefEqProofs [B_law_2, L_law_1, L_law_2_eq, f__law_roster_eq, f__law_share_eq, f__law_same_eq, f_rivals_eq, f_lesson_components_eq, f__law_classes_eq, ite_bind', ifB_bind, thenS_bind, Option.bind_assoc]) xs state_here
def f_law (script : PyData) : Option PyData :=
(f__law_state script).bind fun v1 =>
(rng1 (.int 6)).bind fun v2 =>
(forS v2 (L_law_1) v1).bind fun v33 =>
thenS v33 (fun s34 =>
some (.bool true)) (fun d36 s35 => some d36)
theorem f_law_eq (script : PyData) : F_law [script] = (f_law script).bind fun r => some (r, [script]) := by
  simp -implicitDefEqProofs [F_law, S_law, f_law, L_law_1_eq, f__law_state_eq, f__law_roster_eq, f__law_share_eq, f__law_same_eq, f_rivals_eq, f_lesson_components_eq, f__law_classes_eq, ite_bind', ifB_bind, thenS_bind, Option.bind_assoc]
end LK

namespace LK
open PySem L2 PySem.Spec DL
/-! ### the cells (_law_state, _law_draw) -/
def nums (xs : List Int) : List PyData := xs.map .int
def Deck (k : Nat) (d : PyData) : Prop := ∃ (as bs : List Int) (t : Int), d = .list [.list (nums as), .list (nums bs), .int t] ∧ (∀ a ∈ as, 0 ≤ a) ∧ as.length ≤ 63 ∧ bs ≠ [] ∧ 0 ≤ t ∧ t ≤ k
theorem Deck.mono {k k' : Nat} {d : PyData} (h : Deck k d) (l : k ≤ k') : Deck k' d := by
  obtain ⟨as, bs, t, h1, h2, h3, h4, h5, h6⟩ := h
  exact ⟨as, bs, t, h1, h2, h3, h4, h5, by omega⟩
def absI (i : Int) : Int := if i < 0 then -i else i
theorem state_ok (ns : List Int) (h : ns.length ≤ 63) : ∃ d, f__law_state (.list (ns.map .int)) = some d ∧ Deck 0 d := by
  have h1 : mapS (ns.map .int) C__law_state_1 = some (ns.map fun i => .int (absI i)) := mapS_of fun i _ => rfl
  have h2 : filS ((ns.map absI).map .int) C__law_state_2 = some (((ns.map absI).filter fun i => decide ((10 : Int) ^ 18 ≤ i)).map .int) := filS_of fun i _ => by
    simp [C__law_state_2, xPow]
    split <;> rfl
  have e3 : (ns.map fun i => PyData.int (absI i)) = (ns.map absI).map .int := by rw [List.map_map]; rfl
  have hl : (((ns.map absI).map PyData.int).length : Nat) + 1 ≤ 1000000 := by simp; omega
  refine ⟨.list [.list (nums ((ns.map absI).filter fun i => decide ((10 : Int) ^ 18 ≤ i))), .list (nums (ns.map absI ++ [(((ns.map absI).map PyData.int).length : Int) + 7])), .int 0], ?_, _, _, _, rfl, fun a ha => ?_, ?_, by simp, by decide, by decide⟩
  · unfold f__law_state
    simp only [xSeqL, Option.bind_some, h1, e3, h2, xLenL, xAdd]
    rw [xAddLL (by simpa using hl)]
    simp [nums]
  · have := (List.mem_filter.mp ha).2
    have h := of_decide_eq_true this
    have : (0 : Int) ≤ 10 ^ 18 := by decide
    omega
  · refine Nat.le_trans (List.length_filter_le _ _) ?_
    rw [List.length_map]; exact h
theorem draw_ok {k : Nat} {d : PyData} (hd : Deck k d) (hk : k ≤ 1000000000) (m : Int) (hm : 0 < m) (hm2 : m < 1073741824) : ∃ r d', f__law_draw d (.int m) = some (.int r, d') ∧ Deck (k + 1) d' ∧ 0 ≤ r ∧ r < m := by
  obtain ⟨as, bs, t, rfl, ha, hl, hb, ht, htk⟩ := hd
  have loop : ∀ (as : List Int) (n : Nat), as.length < n → (∀ a ∈ as, 0 ≤ a) → as.length ≤ 63 →
      (∃ as' r, whR n WL__law_draw_1 (L__law_draw_1 (.int m)) (.list [.list (nums as), .list (nums bs), .int t]) = some (.rt (.int r), .list [.list (nums as'), .list (nums bs), .int t]) ∧ (∀ a ∈ as', 0 ≤ a) ∧ as'.length ≤ 63 ∧ 0 ≤ r ∧ r < m) ∨
      whR n WL__law_draw_1 (L__law_draw_1 (.int m)) (.list [.list (nums as), .list (nums bs), .int t]) = some (.nx, .list [.list [], .list (nums bs), .int t]) := by
    intro as
    induction as with
    | nil =>
      intro n hn _ _
      cases n with
      | zero => omega
      | succ n => exact .inr (whR_end (by simp [WL__law_draw_1, nums, plain_nil]))
    | cons a as ih =>
      intro n hn hp hl
      cases n with
      | zero => omega
      | succ n =>
        have h0 := hp a (List.mem_cons_self ..)
        have hpl : PyData.plainAll (nums (a :: as)) = true := plain_map fun _ => rfl
        have hc : WL__law_draw_1 (.list [.list (nums (a :: as)), .list (nums bs), .int t]) = some true := by
          simp [WL__law_draw_1, hpl]
          simp [nums]
        by_cases hz : 0 < a
        · refine .inl ⟨(a / m) :: as, a % m, whR_ret hc ?_, ?_, hl, Int.emod_nonneg _ (by omega), Int.emod_lt_of_pos _ hm⟩
          · simp [L__law_draw_1, nums, hz, xFdiv hm hm2, xMod hm, gSet, setD]
          · intro b hb
            rcases List.mem_cons.mp hb with z | z
            · rw [z]; exact Int.ediv_nonneg h0 (by omega)
            · exact hp b (List.mem_cons_of_mem _ z)
        · have ha0 : a = 0 := by omega
          subst ha0
          have := ih n (by simpa using hn) (fun b hb => hp b (List.mem_cons_of_mem _ hb)) (by simp at hl; omega)
          rw [whR_step hc (s' := .list [.list (nums as), .list (nums bs), .int t]) (by simp [L__law_draw_1, nums, gPopAt, setD])]
          exact this
  rcases loop as fuel (Nat.lt_of_le_of_lt hl (by decide)) ha hl with ⟨as', r, h1, h2, h3, h4, h5⟩ | h1
  · refine ⟨r, _, ?_, ⟨as', bs, t, rfl, h2, h3, hb, ht, by omega⟩, h4, h5⟩
    unfold f__law_draw
    rw [h1]
    rfl
  · have hbl : 0 < bs.length := List.length_pos_iff.mpr hb
    have hbl' : 0 < (((nums bs).length : Nat) : Int) := by rw [nums, List.length_map]; omega
    have ix0 : 0 ≤ (t + 1) % (((nums bs).length : Nat) : Int) := Int.emod_nonneg _ (by omega)
    have ix1 : (t + 1) % (((nums bs).length : Nat) : Int) < bs.length := by
      have := Int.emod_lt_of_pos (t + 1) hbl'
      simpa [nums] using this
    obtain ⟨c, _, _, hat'⟩ := at_map (f := PyData.int) ix0 ix1
    have hc0 : 0 ≤ c % 2147483629 := Int.emod_nonneg _ (by decide)
    have hc1 : c % 2147483629 < 2147483629 := Int.emod_lt_of_pos _ (by decide)
    have m1 := xMul (i := 2) (j := t + 1) (.inl (by decide))
    have m2 := xMul (i := c % 2147483629) (j := 69621 + 2 * (t + 1)) (.inl (by omega))
    have m3 := xMul (i := 48271) (j := t + 1) (.inl (by decide))
    have m4 := xMul (i := 48271 * (t + 1)) (j := t + 1) (.inr (by omega))
    generalize hw : (c % 2147483629 * (69621 + 2 * (t + 1)) + 30011 + 48271 * (t + 1) * (t + 1)) % 2147483587 = w
    have hw0 : 0 ≤ w := by rw [← hw]; exact Int.emod_nonneg _ (by decide)
    have hw1 : w < 2147483587 := by rw [← hw]; exact Int.emod_lt_of_pos _ (by decide)
    have m5 := xMul (i := w) (j := w) (.inl (by omega))
    refine ⟨w * w % 2147483563 / 16 % m, .list [.list (nums []), .list (nums bs), .int (t + 1)], ?_, ⟨[], bs, t + 1, rfl, fun a h => (by cases h), by simp, hb, by omega, by omega⟩, Int.emod_nonneg _ (by omega), Int.emod_lt_of_pos _ hm⟩
    unfold f__law_draw
    rw [h1]
    have k1 := xMod (i := t + 1) hbl'
    have k2 := xMod (i := c) (j := 2147483629) (by decide)
    have k3 := xMod (i := c % 2147483629 * (69621 + 2 * (t + 1)) + 30011 + 48271 * (t + 1) * (t + 1)) (j := 2147483587) (by decide)
    have k4 := xMod (i := w * w) (j := 2147483563) (by decide)
    have k5 := xFdiv (i := w * w % 2147483563) (j := 16) (by decide) (by decide)
    have k6 := xMod (i := w * w % 2147483563 / 16) hm
    rw [hw] at k3
    simp -implicitDefEqProofs only [thenS_nx, List.length_cons, List.length_nil, xIxL, at2, at1, at0, Option.bind_some, scInt, grd_true, xAdd, gSet, ixn2, List.set_cons_succ, List.set_cons_zero, xItem, xLenL, k1, show atI (nums bs) ((t + 1) % (((nums bs).length : Nat) : Int)) = some (PyData.int c) from hat', k2, m1, m2, m3, m4, k3, m5, k4, k5, k6]
    rfl

end LK

namespace LK
open PySem L2 PySem.Spec DL
/-! ### partial answers, step by step -/
def Ok {α : Type} (m : Option α) (Q : α → Prop) : Prop := ∃ a, m = some a ∧ Q a
theorem Ok.bnd {α β : Type} {m : Option α} {f : α → Option β} {Q : β → Prop} {a : α} (h : m = some a) (k : Ok (f a) Q) : Ok (m.bind f) Q := by rw [h]; exact k
theorem Ok.post {α β : Type} {m : Option α} {f : α → Option β} {Q : β → Prop} (P : α → Prop) (h : Ok m P) (k : ∀ a, P a → Ok (f a) Q) : Ok (m.bind f) Q := by
  obtain ⟨a, e, p⟩ := h
  rw [e]; exact k a p
theorem Ok.ret {α : Type} {a : α} {Q : α → Prop} (h : Q a) : Ok (some a) Q := ⟨a, rfl, h⟩
theorem Ok.ite {α : Type} {c : Prop} [Decidable c] {x y : Option α} {Q : α → Prop} (h1 : c → Ok x Q) (h2 : ¬ c → Ok y Q) : Ok (if c then x else y) Q := by
  split
  · rename_i h; exact h1 h
  · rename_i h; exact h2 h
theorem Ok.mono {α : Type} {m : Option α} {Q Q' : α → Prop} (h : Ok m Q) (k : ∀ a, Q a → Q' a) : Ok m Q' := by
  obtain ⟨a, e, p⟩ := h
  exact ⟨a, e, k a p⟩
theorem Ok.eq {α : Type} {m : Option α} {a : α} (h : Ok m fun x => x = a) : m = some a := by
  obtain ⟨b, e, rfl⟩ := h
  exact e

end LK

namespace LK
open PySem L2 PySem.Spec DL
/-! ### rosters -/
structure Ros where
  T : Int
  G : Int
  ls : List (Int × Int)
def les (p : Int × Int) : PyData := .tuple [.int p.1, .int p.2]
def rosD (R : Ros) : PyData := .tuple [.int R.T, .int R.G, .tuple (R.ls.map les)]
def LsOk (T G : Int) (ls : List (Int × Int)) : Prop := ∀ p ∈ ls, 0 ≤ p.1 ∧ p.1 < T ∧ 0 ≤ p.2 ∧ p.2 < G
structure RosOk (n m : Nat) (R : Ros) : Prop where
  T0 : 1 ≤ R.T
  T1 : R.T ≤ n
  G0 : 1 ≤ R.G
  G1 : R.G ≤ n
  len : R.ls.length ≤ m
  ok : LsOk R.T R.G R.ls
theorem LsOk.snoc {T G : Int} {ls : List (Int × Int)} (h : LsOk T G ls) {a b : Int} (ha : 0 ≤ a ∧ a < T ∧ 0 ≤ b ∧ b < G) : LsOk T G (ls ++ [(a, b)]) := fun p hp => by
  rcases List.mem_append.mp hp with z | z
  · exact h p z
  · rw [List.mem_singleton.mp z]; exact ha
theorem les_plain : ∀ p, (les p).plain = true := fun p => by simp [les, plain_tuple, plain_cons, plain_nil]
theorem pick_ok {k : Nat} {d : PyData} (hd : Deck k d) (hk : k ≤ 1000000000) (xs : List PyData) (h0 : xs ≠ []) (hl : xs.length ≤ 1000000) : ∃ x d', f__law_pick d (.list xs) = some (x, d', .list xs) ∧ Deck (k + 1) d' ∧ x ∈ xs := by
  have hp := List.length_pos_iff.mpr h0
  obtain ⟨r, d', h1, h2, h3, h4⟩ := draw_ok hd hk (xs.length : Int) (by omega) (by omega)
  obtain ⟨x, hx, e⟩ := at_mem h3 h4
  exact ⟨x, d', by simp [f__law_pick, h1, e], h2, hx⟩
theorem ros_step {k : Nat} {T G kind : Int} (hT : 1 ≤ T) (hT1 : T ≤ 1000) (hG : 1 ≤ G) (hG1 : G ≤ 1000) (hk : k ≤ 900000000) {dk : PyData} (hd : Deck k dk) {ls : List (Int × Int)} (ok : LsOk T G ls) (hl : ls.length ≤ 900) (x : PyData) :
    Ok (L__law_roster_1 (.int T) (.int G) (.int kind) x (dk, .list (ls.map les))) fun s => ∃ d' p, s = (d', .list ((ls ++ [p]).map les)) ∧ Deck (k + 6) d' ∧ LsOk T G (ls ++ [p]) := by
  obtain ⟨a, d1, h1, k1, a0, a1⟩ := draw_ok hd (by omega) T (by omega) (by omega)
  obtain ⟨b, d2, h2, k2, b0, b1⟩ := draw_ok k1 (by omega) G (by omega) (by omega)
  unfold L__law_roster_1
  refine .bnd h1 (.bnd h2 ?_)
  simp only [xEq, asB_bool, Option.bind_some]
  refine .post (fun v => ∃ c d, v = (c, d) ∧ Deck (k + 3) d) (.ite (fun _ => ?_) fun _ => .ret ⟨_, _, rfl, k2.mono (by omega)⟩) ?_
  · obtain ⟨c, d3, h3, k3, _⟩ := draw_ok k2 (by omega) 2 (by omega) (by omega)
    refine .bnd h3 ?_
    simp only [xEq, asB_bool, Option.bind_some]
    exact .ret ⟨_, _, rfl, k3⟩
  rintro _ ⟨c, d3, rfl, k3⟩
  refine .post (fun v => ∃ p : Int × Int, v = les p ∧ 0 ≤ p.1 ∧ p.1 < T ∧ 0 ≤ p.2 ∧ p.2 < G) (.ite (fun _ => ?_) fun _ => .ret ⟨(a, b), rfl, a0, a1, b0, b1⟩) ?_
  · simp only [xIxT, at1, Option.bind_some]
    exact .ret ⟨(0, b), rfl, by omega, by show (0 : Int) < T; omega, b0, b1⟩
  rintro _ ⟨p, rfl, hp⟩
  refine .post (fun v => ∃ c d, v = (c, d) ∧ Deck (k + 4) d) (.ite (fun _ => ?_) fun _ => .ret ⟨_, _, rfl, k3.mono (by omega)⟩) ?_
  · obtain ⟨c, d4, h4, k4, _⟩ := draw_ok k3 (by omega) 2 (by omega) (by omega)
    refine .bnd h4 ?_
    simp only [xEq, asB_bool, Option.bind_some]
    exact .ret ⟨_, _, rfl, k4⟩
  rintro _ ⟨c2, d4, rfl, k4⟩
  refine .post (fun v => ∃ p : Int × Int, v = les p ∧ 0 ≤ p.1 ∧ p.1 < T ∧ 0 ≤ p.2 ∧ p.2 < G) (.ite (fun _ => ?_) fun _ => .ret ⟨p, rfl, hp⟩) ?_
  · simp only [les, xIxT, at0, xSub, Option.bind_some]
    exact .ret ⟨(p.1, G - 1), rfl, hp.1, hp.2.1, by show 0 ≤ G - 1; omega, by show G - 1 < G; omega⟩
  rintro _ ⟨p2, rfl, hp2⟩
  refine .post (fun v => ∃ c d, v = (c, d) ∧ Deck (k + 5) d ∧ (c = true → ls ≠ [])) (.ite (fun _ => ?_) fun _ => .ret ⟨_, _, rfl, k4.mono (by omega), fun h => by cases h⟩) ?_
  · simp only [xNeNilL, plain_map les_plain, if_true, asB_bool, Option.bind_some]
    refine .post (fun v => ∃ c d, v = (c, d) ∧ Deck (k + 5) d ∧ (c = true → ls ≠ [])) (.ite (fun hne => ?_) fun _ => .ret ⟨_, _, rfl, k4.mono (by omega), fun h => by cases h⟩) ?_
    · obtain ⟨c, d5, h5, k5, _⟩ := draw_ok k4 (by omega) 3 (by omega) (by omega)
      refine .bnd h5 ?_
      simp only [xEq, asB_bool, Option.bind_some]
      exact .ret ⟨_, _, rfl, k5, fun _ z => by subst z; simp at hne⟩
    · rintro _ ⟨c, d5, rfl, k5, hc⟩
      exact .ret ⟨_, _, rfl, k5, hc⟩
  rintro _ ⟨c3, d5, rfl, k5, hc3⟩
  refine .post (fun v => ∃ d p, v = (d, .list (ls.map les), les p) ∧ Deck (k + 6) d ∧ 0 ≤ p.1 ∧ p.1 < T ∧ 0 ≤ p.2 ∧ p.2 < G) (.ite (fun hc => ?_) fun _ => .ret ⟨_, p2, rfl, k5.mono (by omega), hp2⟩) ?_
  · obtain ⟨x, d6, h6, k6, hx⟩ := pick_ok k5 (by omega) (ls.map les) (by simpa using hc3 hc) (by simp; omega)
    refine .bnd h6 ?_
    obtain ⟨q, hq, rfl⟩ := List.mem_map.mp hx
    exact .ret ⟨_, q, rfl, k6, ok q hq⟩
  rintro _ ⟨d6, p3, rfl, k6, hp3⟩
  refine .bnd (xApp (by simp; omega)) (.ret ⟨d6, p3, ?_, k6, ok.snoc hp3⟩)
  simp
theorem roster_ok {k : Nat} {d : PyData} (hd : Deck k d) (hk : k ≤ 100000000) (P Q : Nat) (hP : 1 ≤ P) (hP1 : P ≤ 900) (hQ : Q ≤ 900) :
    ∃ R d', f__law_roster d (.int P) (.int Q) = some (rosD R, d') ∧ Deck (k + 4 + 6 * Q) d' ∧ RosOk P Q R := by
  obtain ⟨a, d1, h1, k1, a0, a1⟩ := draw_ok hd (by omega) P (by omega) (by omega)
  obtain ⟨b, d2, h2, k2, b0, b1⟩ := draw_ok k1 (by omega) P (by omega) (by omega)
  obtain ⟨w, d3, h3, k3, w0, w1⟩ := draw_ok k2 (by omega) 4 (by omega) (by omega)
  obtain ⟨c, d4, h4, k4, c0, c1⟩ := draw_ok k3 (by omega) ((Q : Int) + 1) (by omega) (by omega)
  obtain ⟨s', h5, dk, ls, rfl, hd5, hl5, ok5⟩ := foldS_range (f := L__law_roster_1 (.int (1 + a)) (.int (1 + b)) (.int w)) (s := (d4, .list [])) (n := c.toNat)
    (fun i s => ∃ dk ls, s = (dk, .list (ls.map les)) ∧ Deck (k + 4 + 6 * i) dk ∧ ls.length = i ∧ LsOk (1 + a) (1 + b) ls) ⟨d4, [], rfl, k4, rfl, fun p h => by cases h⟩ fun i s hi h => by
      obtain ⟨dk, ls, rfl, hdk, hl, ok⟩ := h
      obtain ⟨s', e, d', p, rfl, hd', ok'⟩ := ros_step (kind := w) (by omega) (by omega) (by omega) (by omega) (by omega) hdk ok (by omega) (natD i)
      exact ⟨_, e, d', ls ++ [p], rfl, hd'.mono (by omega), by simp [hl], ok'⟩
  refine ⟨⟨1 + a, 1 + b, ls⟩, dk, ?_, hd5.mono (by omega), ⟨by show 1 ≤ 1 + a; omega, by show 1 + a ≤ (P : Int); omega, by show 1 ≤ 1 + b; omega, by show 1 + b ≤ (P : Int); omega, by show ls.length ≤ Q; omega, ok5⟩⟩
  unfold f__law_roster
  simp only [h1, h2, h3, h4, xAdd, Option.bind_some, rng1_ok c0 (by omega : c ≤ 1000000), h5, xTupL]
  rfl

end LK

namespace LK
open PySem L2 PySem.Spec DL
/-! ### rows of natural numbers as data -/
theorem cast_list (L : List Nat) : L.map natD = (L.map fun x => ((x : Nat) : Int)).map .int := by rw [List.map_map]; rfl
theorem cast_mem {L : List Nat} {k : Nat} : decide (((k : Nat) : Int) ∈ L.map fun x => ((x : Nat) : Int)) = decide (k ∈ L) := by
  rw [decide_eq_decide, List.mem_map]
  constructor
  · rintro ⟨a, h1, h2⟩
    rwa [show k = a by omega]
  · intro h
    exact ⟨k, h, rfl⟩
theorem in_list {L : List Nat} {k : Nat} : gIn (natD k) (.list (L.map natD)) = some (.bool (decide (k ∈ L))) := by
  rw [cast_list]
  have := xInL (i := ((k : Nat) : Int)) (l := L.map fun x => ((x : Nat) : Int))
  rw [cast_mem] at this
  exact this
theorem notin_list {L : List Nat} {k : Nat} : gNotIn (natD k) (.list (L.map natD)) = some (.bool (!decide (k ∈ L))) := by
  rw [cast_list]
  have := xNotInL (i := ((k : Nat) : Int)) (l := L.map fun x => ((x : Nat) : Int))
  rw [cast_mem] at this
  exact this
theorem in_tuple {L : List Nat} {k : Nat} : gIn (natD k) (.tuple (L.map natD)) = some (.bool (decide (k ∈ L))) := by
  rw [cast_list]
  have := xInT (i := ((k : Nat) : Int)) (l := L.map fun x => ((x : Nat) : Int))
  rw [cast_mem] at this
  exact this
theorem like_nats (l : List Nat) : likeOk (l.map natD) = true := by
  unfold likeOk
  simp only [Bool.and_eq_true, List.all_eq_true, decide_eq_true_eq]
  refine ⟨⟨⟨plain_map fun _ => rfl, fun x hx y hy => ?_⟩, fun x hx => ?_⟩, Nat.le_trans (depth_map (f := natD) (n := 0) fun _ => Nat.le_refl 0) (by decide)⟩
  · obtain ⟨a, _, rfl⟩ := List.mem_map.mp hx
    obtain ⟨b, _, rfl⟩ := List.mem_map.mp hy
    simp [PySem.W.alike, natD]
  · obtain ⟨a, _, rfl⟩ := List.mem_map.mp hx
    rfl
/-- the greatest, the least of a row -/
def mxN : List Nat → Nat
  | [] => 0
  | n :: ns => ns.foldl max n
def mnN : List Nat → Nat
  | [] => 0
  | n :: ns => ns.foldl min n
theorem fold_max (ns : List Nat) : ∀ n : Nat, (ns.map fun x => ((x : Nat) : Int)).foldl max (n : Int) = ((ns.foldl max n : Nat) : Int) := by
  induction ns with
  | nil => intro n; rfl
  | cons a ns ih =>
    intro n
    rw [List.map_cons, List.foldl_cons, List.foldl_cons, show max (n : Int) (a : Int) = ((max n a : Nat) : Int) by omega, ih]
theorem fold_min (ns : List Nat) : ∀ n : Nat, (ns.map fun x => ((x : Nat) : Int)).foldl min (n : Int) = ((ns.foldl min n : Nat) : Int) := by
  induction ns with
  | nil => intro n; rfl
  | cons a ns ih =>
    intro n
    rw [List.map_cons, List.foldl_cons, List.foldl_cons, show min (n : Int) (a : Int) = ((min n a : Nat) : Int) by omega, ih]
theorem fold_max_ge (ns : List Nat) : ∀ n : Nat, n ≤ ns.foldl max n ∧ ∀ k ∈ ns, k ≤ ns.foldl max n := by
  induction ns with
  | nil => intro n; exact ⟨Nat.le_refl _, fun k h => by cases h⟩
  | cons a ns ih =>
    intro n
    have := ih (max n a)
    refine ⟨by rw [List.foldl_cons]; omega, fun k hk => ?_⟩
    rw [List.foldl_cons]
    rcases List.mem_cons.mp hk with rfl | z
    · omega
    · exact this.2 k z
theorem fold_max_mem (ns : List Nat) : ∀ n : Nat, ns.foldl max n = n ∨ ns.foldl max n ∈ ns := by
  induction ns with
  | nil => intro n; exact .inl rfl
  | cons a ns ih =>
    intro n
    rw [List.foldl_cons]
    rcases ih (max n a) with h | h
    · rw [h]
      rcases Nat.le_total n a with q | q
      · rw [Nat.max_eq_right q]; exact .inr (List.mem_cons_self ..)
      · rw [Nat.max_eq_left q]; exact .inl rfl
    · exact .inr (List.mem_cons_of_mem _ h)
theorem fold_min_le (ns : List Nat) : ∀ n : Nat, ns.foldl min n ≤ n ∧ ∀ k ∈ ns, ns.foldl min n ≤ k := by
  induction ns with
  | nil => intro n; exact ⟨Nat.le_refl _, fun k h => by cases h⟩
  | cons a ns ih =>
    intro n
    have := ih (min n a)
    refine ⟨by rw [List.foldl_cons]; omega, fun k hk => ?_⟩
    rw [List.foldl_cons]
    rcases List.mem_cons.mp hk with rfl | z
    · omega
    · exact this.2 k z
theorem fold_min_mem (ns : List Nat) : ∀ n : Nat, ns.foldl min n = n ∨ ns.foldl min n ∈ ns := by
  induction ns with
  | nil => intro n; exact .inl rfl
  | cons a ns ih =>
    intro n
    rw [List.foldl_cons]
    rcases ih (min n a) with h | h
    · rw [h]
      rcases Nat.le_total n a with q | q
      · rw [Nat.min_eq_left q]; exact .inl rfl
      · rw [Nat.min_eq_right q]; exact .inr (List.mem_cons_self ..)
    · exact .inr (List.mem_cons_of_mem _ h)
theorem mx_ge {l : List Nat} {k : Nat} (h : k ∈ l) : k ≤ mxN l := by
  cases l with
  | nil => cases h
  | cons n ns =>
    rcases List.mem_cons.mp h with rfl | z
    · exact (fold_max_ge ns k).1
    · exact (fold_max_ge ns n).2 k z
theorem mx_mem {l : List Nat} (h : l ≠ []) : mxN l ∈ l := by
  cases l with
  | nil => exact absurd rfl h
  | cons n ns =>
    rcases fold_max_mem ns n with q | q
    · show ns.foldl max n ∈ n :: ns
      rw [q]; exact List.mem_cons_self ..
    · exact List.mem_cons_of_mem _ q
theorem mn_le {l : List Nat} {k : Nat} (h : k ∈ l) : mnN l ≤ k := by
  cases l with
  | nil => cases h
  | cons n ns =>
    rcases List.mem_cons.mp h with rfl | z
    · exact (fold_min_le ns k).1
    · exact (fold_min_le ns n).2 k z
theorem mn_mem {l : List Nat} (h : l ≠ []) : mnN l ∈ l := by
  cases l with
  | nil => exact absurd rfl h
  | cons n ns =>
    rcases fold_min_mem ns n with q | q
    · show ns.foldl min n ∈ n :: ns
      rw [q]; exact List.mem_cons_self ..
    · exact List.mem_cons_of_mem _ q
theorem mx_nat {n : Nat} {ns : List Nat} : PySem.W.maxD (natD n) (ns.map natD) = natD (mxN (n :: ns)) := by
  rw [cast_list]
  show PySem.W.maxD (.int (n : Nat)) _ = _
  rw [PySem.W.maxD_ints, fold_max]; rfl
theorem mn_nat {n : Nat} {ns : List Nat} : PySem.W.minD (natD n) (ns.map natD) = natD (mnN (n :: ns)) := by
  rw [cast_list]
  show PySem.W.minD (.int (n : Nat)) _ = _
  rw [PySem.W.minD_ints, fold_min]; rfl
theorem xMaxNT {l : List Nat} (h : l ≠ []) : gMax (.tuple (l.map natD)) = some (natD (mxN l)) := by
  cases l with
  | nil => exact absurd rfl h
  | cons n ns =>
    show (if likeOk ((n :: ns).map natD) = true then some (PySem.W.maxD (natD n) (ns.map natD)) else none) = _
    rw [like_nats, if_pos rfl, mx_nat]
theorem xMaxNL {l : List Nat} (h : l ≠ []) : gMax (.list (l.map natD)) = some (natD (mxN l)) := by
  cases l with
  | nil => exact absurd rfl h
  | cons n ns =>
    show (if likeOk ((n :: ns).map natD) = true then some (PySem.W.maxD (natD n) (ns.map natD)) else none) = _
    rw [like_nats, if_pos rfl, mx_nat]
theorem xMinNL {l : List Nat} (h : l ≠ []) : gMin (.list (l.map natD)) = some (natD (mnN l)) := by
  cases l with
  | nil => exact absurd rfl h
  | cons n ns =>
    show (if likeOk ((n :: ns).map natD) = true then some (PySem.W.minD (natD n) (ns.map natD)) else none) = _
    rw [like_nats, if_pos rfl, mn_nat]
theorem nat_eqv (j k : Nat) : PyData.eqv (natD j) (natD k) = decide (j = k) := by
  show PyData.eqv (.int _) (.int _) = _
  rw [eqv_int, decide_eq_decide]; omega
theorem idx_nat (r : List Nat) (k : Nat) : ((r.map natD).map fun y => PyData.eqv y (natD k)).idxOf true = r.idxOf k := by
  induction r with
  | nil => rfl
  | cons a r ih =>
    rw [List.map_cons, List.map_cons, List.idxOf_cons, List.idxOf_cons, ih, nat_eqv]
    by_cases h : a = k
    · subst h; simp
    · rw [decide_eq_false h, show (a == k) = false from by simpa using h]; rfl
theorem ix_ok (l : List Nat) (k : Nat) : okIx (l.map natD) (natD k) = true := by
  unfold okIx
  rw [decide_eq_true (Nat.le_trans (Nat.min_le_left _ _) (Nat.le_trans (depth_map (f := natD) (n := 0) fun _ => Nat.le_refl 0) (by decide))), plain_map (f := natD) fun _ => rfl]; rfl
theorem idxL_nat {l : List Nat} {k : Nat} (h : k ∈ l) : gIndexL (l.map natD) (natD k) = some (natD (l.idxOf k)) := by
  have an : ((l.map natD).any fun y => PyData.eqv y (natD k)) = true := List.any_eq_true.mpr ⟨natD k, List.mem_map.mpr ⟨k, h, rfl⟩, by rw [nat_eqv]; exact decide_eq_true rfl⟩
  unfold gIndexL
  rw [ix_ok, an, idx_nat]; rfl
theorem xIdxT {l : List Nat} {k : Nat} (h : k ∈ l) : gIndex (.tuple (l.map natD)) (natD k) = some (natD (l.idxOf k)) := idxL_nat h
theorem xIdxL {l : List Nat} {k : Nat} (h : k ∈ l) : gIndex (.list (l.map natD)) (natD k) = some (natD (l.idxOf k)) := idxL_nat h
theorem cntL_int (l : List Int) (i : Int) : gCountL (l.map .int) (.int i) = some (natD (l.count i)) := by
  unfold gCountL okIx
  rw [decide_eq_true (Nat.le_trans (Nat.min_le_left _ _) (depth_ints)), plain_ints]
  show some (PyData.int _) = some (PyData.int _)
  rw [List.countP_map, List.count]
  congr 3
theorem xCntT (l : List Int) (i : Int) : gCount (.tuple (l.map .int)) (.int i) = some (natD (l.count i)) := cntL_int l i
theorem xCntL (l : List Int) (i : Int) : gCount (.list (l.map .int)) (.int i) = some (natD (l.count i)) := cntL_int l i

end LK

namespace LK
open PySem L2 PySem.Spec DL
/-! ### rows of numbers sorted -/
def sortL (xs : List PyData) : List PyData := xs.mergeSort (PySem.W.dataLe false id)
theorem sortL_len {xs : List PyData} : (sortL xs).length = xs.length := List.length_mergeSort _
theorem sortL_mem {xs : List PyData} {x : PyData} (h : x ∈ sortL xs) : x ∈ xs := (List.mergeSort_perm _ _).subset h
theorem sortOk_ints (l : List Int) : sortOk (l.map .int) = true := by
  unfold sortOk
  simp only [Bool.and_eq_true, List.all_eq_true, decide_eq_true_eq, Bool.or_eq_true]
  refine ⟨⟨fun x hx y hy => ?_, .inr fun x hx => ?_⟩, ?_⟩
  · obtain ⟨k, _, rfl⟩ := List.mem_map.mp hx
    obtain ⟨j, _, rfl⟩ := List.mem_map.mp hy
    simp [PySem.W.alike]
  · obtain ⟨k, _, rfl⟩ := List.mem_map.mp hx
    rfl
  · exact Nat.le_trans (depth_map (f := PyData.int) (n := 0) fun _ => Nat.le_refl 0) (by decide)
theorem xSortT (l : List Int) : gSorted (.tuple (l.map .int)) = some (.list (sortL (l.map .int))) := if_pos (sortOk_ints l)
theorem xSortL (l : List Int) : gSorted (.list (l.map .int)) = some (.list (sortL (l.map .int))) := if_pos (sortOk_ints l)
theorem dataLe_int (i j : Int) : PySem.W.dataLe false id (.int i) (.int j) = decide (i ≤ j) := by
  show PySem.W.dataLe false (fun b : Int => PyData.int b) i j = _
  rw [PySem.W.dataLe_int fun b : Int => b]
theorem sortL_ints (l : List Int) : sortL (l.map .int) = (l.mergeSort fun i j => decide (i ≤ j)).map .int := by
  unfold sortL
  exact (List.map_mergeSort fun a _ b _ => (dataLe_int a b).symm).symm
theorem sort_rising {l m : List Int} (p : l.Perm m) (h : m.Pairwise (· < ·)) : sortL (l.map .int) = m.map .int := by
  rw [sortL_ints]
  congr 1
  have p1 := (List.mergeSort_perm l fun i j => decide (i ≤ j)).trans p
  have s1 : (l.mergeSort fun i j => decide (i ≤ j)).Pairwise fun i j => decide (i ≤ j) = true := List.pairwise_mergeSort (fun a b c h1 h2 => by simp at h1 h2 ⊢; omega) (fun a b => by simp; omega) l
  have nd : (l.mergeSort fun i j => decide (i ≤ j)).Nodup := p1.nodup_iff.mpr (lt_nodup h)
  refine rising_one ?_ h fun j => p1.mem_iff
  have := List.Pairwise.and s1 nd
  exact this.imp fun {a b} h => by
    have h1 := of_decide_eq_true h.1
    have h2 : a ≠ b := h.2
    omega

end LK

namespace LK
open PySem L2 PySem.Spec DL
/-! ### weights of texts -/
theorem vl_textI {n s : Nat} {i : Int} (h : wt (.int i) ≤ s) : Vl n (s + 222) (.str (Str.ofString (toString i))) := by
  refine ⟨rfl, Nat.zero_le _, ?_⟩
  have h1 := StrLaws.reprText_len (Str.ofString (toString i)) fun c hc => by
    rw [PySem.Str.ofString_eq_toList] at hc
    obtain ⟨ch, _, rfl⟩ := List.mem_map.mp (show c ∈ (toString i).toList.map Char.toNat by simpa using hc)
    have : ch.toNat < 4294967296 := ch.val.toNat_lt
    exact this
  have h2 := int_shown i
  have h3 : (PyData.int i).shown.length = (Str.ofString (toString i)).length := rfl
  have h4 : wt (.int i) = 64 * i.natAbs.log2 + 20 := by rw [DL.wt]
  show (reprText _).length + 20 ≤ _
  omega
theorem wt_int_le {i : Int} {k : Nat} (h : i.natAbs < 2 ^ k) : wt (.int i) ≤ 64 * k + 20 := by
  rw [DL.wt]
  by_cases z : i.natAbs = 0
  · rw [z]; simp
  · have := (Nat.log2_lt (k := k) z).mpr h
    omega
theorem wt_int_add {i c : Int} {w : Nat} (h : wt (.int i) ≤ w) (hc : c.natAbs < 2 ^ 20) : wt (.int (i + c)) ≤ w + 1344 := by
  rw [DL.wt] at h
  have h1 : i.natAbs < 2 ^ (i.natAbs.log2 + 1) := by
    by_cases z : i.natAbs = 0
    · rw [z]; decide
    · exact Nat.lt_log2_self
  have h2 : (i + c).natAbs < 2 ^ (i.natAbs.log2 + 1 + 20) := by
    have a1 : 2 ^ (i.natAbs.log2 + 1) ≤ 2 ^ (i.natAbs.log2 + 20) := Nat.pow_le_pow_right (by decide) (by omega)
    have a2 : 2 ^ 20 ≤ 2 ^ (i.natAbs.log2 + 20) := Nat.pow_le_pow_right (by decide) (by omega)
    have a3 : 2 ^ (i.natAbs.log2 + 1 + 20) = 2 ^ (i.natAbs.log2 + 20) + 2 ^ (i.natAbs.log2 + 20) := by rw [show i.natAbs.log2 + 1 + 20 = i.natAbs.log2 + 20 + 1 by omega, Nat.pow_succ]; omega
    omega
  have := wt_int_le h2
  omega
theorem vl_int_of {n s : Nat} {i : Int} (h : wt (.int i) ≤ s) (hs : s ≤ 120000) : Vl n s (.int i) := by
  refine ⟨?_, Nat.zero_le _, h⟩
  rw [DL.wt] at h
  show decide (i.natAbs.log2 < 1920) = true
  exact decide_eq_true (by omega)
theorem Vl.log {n s : Nat} {i : Int} (h : Vl n s (.int i)) : i.natAbs.log2 < 1920 := of_decide_eq_true h.sh
theorem vl_smallI {n s : Nat} {i : Int} {k : Nat} (hk : k ≤ 1000) (h : i.natAbs < 2 ^ k) (hs : 64 * k + 20 ≤ s) : Vl n s (.int i) := (vl_int_of (s := 64 * k + 20) (wt_int_le h) (by omega)).mono (Nat.le_refl _) hs
theorem xStr {i : Int} (h : i.natAbs.log2 < 1920) : gStr (.int i) = some (.str (Str.ofString (toString i))) := if_pos ⟨h, int_text_fits h⟩
@[simp] theorem xStrB {b : Bool} : gStr (.bool b) = some (.str (if b = true then "True" else "False")) := rfl
theorem vl_boolText {n s : Nat} {b : Bool} (hs : 40 ≤ s) : Vl n s (.str (if b = true then "True" else "False")) := by
  refine Vl.mono (s := 40) ⟨rfl, Nat.zero_le _, ?_⟩ (Nat.le_refl _) hs
  cases b <;> decide +kernel
theorem VlL.take1 {n s : Nat} {x : PyData} {xs : List PyData} (h : VlL n s xs) (hx : x ∈ xs) : Vl n s x := h.mem hx
theorem VlL.slice {n s t : Nat} {x : PyData} : ∀ {xs : List PyData} (k : Nat), VlL n s xs → k < xs.length → Vl n t x → VlL n (s + t) (xs.take k ++ x :: xs.drop (k + 1))
  | [], k, _, hk, _ => by simp at hk
  | y :: ys, 0, h, _, hx => by
    obtain ⟨s1, s2, h1, h2, h3⟩ := h.split
    exact (VlL.cons hx h2).mono (Nat.le_refl _) (by omega)
  | y :: ys, k + 1, h, hk, hx => by
    obtain ⟨s1, s2, h1, h2, h3⟩ := h.split
    exact (VlL.cons h1 (VlL.slice k h2 (by simpa using hk) hx)).mono (Nat.le_refl _) (by omega)

end LK

namespace LK
open PySem L2 PySem.Spec DL
theorem les_vl {p : Int × Int} {k : Nat} {c : Int} (hk : k ≤ 1000) (hc : c.natAbs ≤ 2 ^ k) (h : 0 ≤ p.1 ∧ p.1 < c ∧ 0 ≤ p.2 ∧ p.2 < c) : Vl 2 (128 * k + 64) (les p) :=
  ((VlL.cons (vl_smallI (n := 1) (k := k) hk (by omega) (Nat.le_refl _)) (VlL.cons (vl_smallI (k := k) hk (by omega) (Nat.le_refl _)) (VlL.nil (s := 0)))).tuple).mono (by decide) (by omega)
theorem ros_vl {n m : Nat} {R : Ros} (h : RosOk n m R) (k : Nat) (hk : k ≤ 1000) (hn : n < 2 ^ k) : Vl 4 (128 * k + 100 + (128 * k + 66) * m) (rosD R) := by
  have t0 := h.T0
  have t1 := h.T1
  have g0 := h.G0
  have g1 := h.G1
  have hl : VlL 2 (R.ls.length * (128 * k + 66)) (R.ls.map les) := vl_map (c := 128 * k + 64) fun p hp => les_vl (k := k) (c := n) hk (by omega) (by have := h.ok p hp; omega)
  have := Nat.mul_le_mul_right (128 * k + 66) h.len
  rw [Nat.mul_comm m] at this
  exact ((VlL.cons (vl_smallI (n := 3) (k := k) hk (by omega) (Nat.le_refl _)) (VlL.cons (vl_smallI (k := k) hk (by omega) (Nat.le_refl _)) (VlL.cons hl.tuple (VlL.nil (s := 0))))).tuple).mono (by decide) (by omega)

end LK

namespace LK
open PySem L2 PySem.Spec DL
theorem same_ok {n s : Nat} {d : PyData} (h : Vl n s d) (hn : n ≤ 58) (hs : s ≤ 16000000) : f__law_same d d = some (.bool true) := by
  simp [f__law_same, gRepr_ok h hn hs]

end LK

namespace LK
open PySem L2 PySem.Spec DL
/-! ### naturals in order -/
theorem sort_asc {l : List Nat} (nd : l.Nodup) : ∃ l' : List Nat, gSorted (.list (l.map natD)) = some (.list (l'.map natD)) ∧ l'.Perm l ∧ l'.Pairwise (· < ·) := by
  have p := List.mergeSort_perm l fun i j => decide (i ≤ j)
  have s1 : (l.mergeSort fun i j => decide (i ≤ j)).Pairwise fun i j => decide (i ≤ j) = true := List.pairwise_mergeSort (fun a b c h1 h2 => by simp at h1 h2 ⊢; omega) (fun a b => by simp; omega) l
  have n1 : (l.mergeSort fun i j => decide (i ≤ j)).Nodup := p.nodup_iff.mpr nd
  have asc : (l.mergeSort fun i j => decide (i ≤ j)).Pairwise (· < ·) := (List.Pairwise.and s1 n1).imp fun {a b} h => by
    have h1 := of_decide_eq_true h.1
    have h2 : a ≠ b := h.2
    omega
  refine ⟨_, ?_, p, asc⟩
  rw [cast_list, xSortL, sort_rising (m := (l.mergeSort fun i j => decide (i ≤ j)).map fun x : Nat => (x : Int)) (p.symm.map _) (List.pairwise_map.mpr (asc.imp fun h => by omega)), ← cast_list]

end LK

namespace LK
open PySem L2 PySem.Spec DL
/-! ### classes of what chains connect -/
inductive Con (n : Nat) (b : Nat → Nat → Bool) (x : Nat) : Nat → Prop
  | refl : Con n b x x
  | step {y z : Nat} : Con n b x y → z < n → b y z = true → Con n b x z
section
variable {n : Nat} {b : Nat → Nat → Bool}
theorem Con.lt {x y : Nat} (hx : x < n) (h : Con n b x y) : y < n := by
  cases h with
  | refl => exact hx
  | step _ h _ => exact h
theorem Con.trans {x y z : Nat} (h : Con n b x y) (k : Con n b y z) : Con n b x z := by
  induction k with
  | refl => exact h
  | step _ h2 h3 ih => exact .step ih h2 h3
theorem Con.symm (sy : ∀ x y, b x y = b y x) {x y : Nat} (hx : x < n) (h : Con n b x y) : Con n b y x := by
  induction h with
  | refl => exact .refl
  | @step y z h1 h2 h3 ih => exact (Con.step .refl (h1.lt hx) (by rw [sy]; exact h3)).trans ih
def lyr (n : Nat) (b : Nat → Nat → Bool) (x : Nat) : Nat → Nat → Bool
  | 0, y => decide (y = x)
  | t + 1, y => lyr n b x t y || (List.range n).any fun z => lyr n b x t z && b z y
theorem lyr_con {x : Nat} : ∀ {t y : Nat}, y < n → lyr n b x t y = true → Con n b x y
  | 0, y, _, h => by
    rw [of_decide_eq_true (show decide (y = x) = true from h)]
    exact .refl
  | t + 1, y, hy, h => by
    rcases (Bool.or_eq_true _ _).mp (show (lyr n b x t y || _) = true from h) with h | h
    · exact lyr_con hy h
    · obtain ⟨z, hz, k⟩ := List.any_eq_true.mp h
      obtain ⟨k1, k2⟩ := (Bool.and_eq_true _ _).mp k
      exact .step (lyr_con (List.mem_range.mp hz) k1) hy k2
theorem lyr_up {x t y : Nat} (h : lyr n b x t y = true) : lyr n b x (t + 1) y = true := by
  show (lyr n b x t y || _) = true
  rw [h]; rfl
theorem lyr_le {x y t : Nat} (h : lyr n b x t y = true) : ∀ s, lyr n b x (t + s) y = true
  | 0 => h
  | s + 1 => lyr_up (lyr_le h s)
theorem lyr_next {x t y z : Nat} (hz : z < n) (h : lyr n b x t z = true) (k : b z y = true) : lyr n b x (t + 1) y = true := by
  show (lyr n b x t y || _) = true
  rw [Bool.or_eq_true]
  exact .inr (List.any_eq_true.mpr ⟨z, List.mem_range.mpr hz, by rw [h, k]; rfl⟩)
theorem lyr_same {x t t' : Nat} (e : ∀ y, y < n → lyr n b x t y = lyr n b x t' y) : ∀ y, y < n → lyr n b x (t + 1) y = lyr n b x (t' + 1) y := fun y hy => by
  show (lyr n b x t y || _) = (lyr n b x t' y || _)
  rw [e y hy]
  congr 1
  rw [Bool.eq_iff_iff, List.any_eq_true, List.any_eq_true]
  constructor
  · rintro ⟨z, hz, k⟩
    exact ⟨z, hz, by rw [← e z (List.mem_range.mp hz)]; exact k⟩
  · rintro ⟨z, hz, k⟩
    exact ⟨z, hz, by rw [e z (List.mem_range.mp hz)]; exact k⟩
theorem lyr_stay {x t : Nat} (e : ∀ y, y < n → lyr n b x (t + 1) y = lyr n b x t y) : ∀ s y, y < n → lyr n b x (t + s) y = lyr n b x t y
  | 0, y, _ => rfl
  | s + 1, y, hy => by
    have := lyr_same (lyr_stay e s) y hy
    rw [show t + (s + 1) = t + s + 1 by omega, this, e y hy]
theorem filter_more {p q : Nat → Bool} : ∀ l : List Nat, (∀ y ∈ l, p y = true → q y = true) → (∃ y ∈ l, q y = true ∧ p y = false) → (l.filter p).length + 1 ≤ (l.filter q).length
  | [], _, h => by obtain ⟨y, hy, _⟩ := h; cases hy
  | a :: l, h1, h2 => by
    have le : ∀ l : List Nat, (∀ y ∈ l, p y = true → q y = true) → (l.filter p).length ≤ (l.filter q).length := fun l => by
      induction l with
      | nil => intro _; exact Nat.le_refl _
      | cons c l ih =>
        intro h
        have := ih fun y hy => h y (List.mem_cons_of_mem _ hy)
        have hc := h c (List.mem_cons_self ..)
        cases e1 : p c with
        | true => rw [List.filter_cons_of_pos e1, List.filter_cons_of_pos (hc e1), List.length_cons, List.length_cons]; omega
        | false =>
          rw [List.filter_cons_of_neg (by rw [e1]; simp)]
          cases e2 : q c with
          | true => rw [List.filter_cons_of_pos e2, List.length_cons]; omega
          | false => rw [List.filter_cons_of_neg (by rw [e2]; simp)]; exact this
    have ha := h1 a (List.mem_cons_self ..)
    have hl := fun y hy => h1 y (List.mem_cons_of_mem _ hy)
    obtain ⟨y, hy, k1, k2⟩ := h2
    rcases List.mem_cons.mp hy with rfl | hy
    · rw [List.filter_cons_of_neg (by rw [k2]; simp), List.filter_cons_of_pos k1, List.length_cons]
      have := le l hl
      omega
    · have ih := filter_more l hl ⟨y, hy, k1, k2⟩
      cases e1 : p a with
      | true => rw [List.filter_cons_of_pos e1, List.filter_cons_of_pos (ha e1), List.length_cons, List.length_cons]; omega
      | false =>
        rw [List.filter_cons_of_neg (by rw [e1]; simp)]
        cases e2 : q a with
        | true => rw [List.filter_cons_of_pos e2, List.length_cons]; omega
        | false => rw [List.filter_cons_of_neg (by rw [e2]; simp)]; exact ih
theorem lyr_grow {x : Nat} (hx : x < n) : ∀ t, (∃ s, s ≤ t ∧ ∀ y, y < n → lyr n b x (s + 1) y = lyr n b x s y) ∨ t + 1 ≤ ((List.range n).filter (lyr n b x t)).length
  | 0 => by
    right
    have : x ∈ (List.range n).filter (lyr n b x 0) := List.mem_filter.mpr ⟨List.mem_range.mpr hx, decide_eq_true rfl⟩
    exact List.length_pos_of_mem this
  | t + 1 => by
    rcases lyr_grow hx t with ⟨s, h1, h2⟩ | h
    · exact .inl ⟨s, by omega, h2⟩
    · by_cases c : ∀ y, y < n → lyr n b x (t + 1) y = lyr n b x t y
      · exact .inl ⟨t, by omega, c⟩
      · right
        obtain ⟨y, hy⟩ := Classical.not_forall.mp c
        obtain ⟨hy, ne⟩ := Classical.not_imp.mp hy
        have := filter_more (p := lyr n b x t) (q := lyr n b x (t + 1)) (List.range n) (fun y _ h => lyr_up h) ⟨y, List.mem_range.mpr hy, by
          cases e : lyr n b x t y with
          | true => exact absurd ((lyr_up e).trans e.symm) ne
          | false =>
            cases e2 : lyr n b x (t + 1) y with
            | true => exact ⟨rfl, rfl⟩
            | false => exact absurd (e2.trans e.symm) ne⟩
        omega
theorem lyr_shut {x : Nat} (hx : x < n) : ∀ y, y < n → lyr n b x (n + 1) y = lyr n b x n y := fun y hy => by
  rcases lyr_grow (b := b) hx n with ⟨s, h1, h2⟩ | h
  · have a := lyr_stay h2 (n - s) y hy
    have c := lyr_stay h2 (n + 1 - s) y hy
    rw [show s + (n - s) = n by omega] at a
    rw [show s + (n + 1 - s) = n + 1 by omega] at c
    rw [a, c]
  · have := List.length_filter_le (lyr n b x n) (List.range n)
    rw [List.length_range] at this
    omega
def conB (n : Nat) (b : Nat → Nat → Bool) (x y : Nat) : Bool := lyr n b x n y
theorem conB_iff {x y : Nat} (hx : x < n) (hy : y < n) : conB n b x y = true ↔ Con n b x y := by
  refine ⟨lyr_con hy, fun h => ?_⟩
  induction h with
  | refl =>
    have : lyr n b x 0 x = true := decide_eq_true rfl
    have := lyr_le this n
    rw [Nat.zero_add] at this
    exact this
  | @step y z h1 h2 h3 ih =>
    have := lyr_next (h1.lt hx) (ih (h1.lt hx)) h3
    rw [lyr_shut hx z h2] at this
    exact this
def clsM (n : Nat) (b : Nat → Nat → Bool) (x : Nat) : List Nat := (List.range n).filter (conB n b x)
def minsM (n : Nat) (b : Nat → Nat → Bool) (k : Nat) : List Nat := (List.range k).filter fun x => (List.range x).all fun y => !conB n b y x
/-! ### labels that fall to the least of each class -/
def lowM (l : List Nat) (x y : Nat) : Nat := min (l.getD x 0) (l.getD y 0)
def updM (b : Nat → Nat → Bool) (x : Nat) (l : List Nat) (y : Nat) : List Nat := if b x y = true then (l.set x (lowM l x y)).set y (lowM l x y) else l
def rowM (b : Nat → Nat → Bool) (l : List Nat) (x : Nat) : List Nat := (List.range x).foldl (updM b x) l
def passM (n : Nat) (b : Nat → Nat → Bool) (l : List Nat) : List Nat := (List.range n).foldl (rowM b) l
def Fall (l' l : List Nat) : Prop := l'.length = l.length ∧ ∀ x, l'.getD x 0 ≤ l.getD x 0
theorem Fall.refl (l : List Nat) : Fall l l := ⟨rfl, fun _ => Nat.le_refl _⟩
theorem Fall.trans {a c d : List Nat} (h : Fall a c) (k : Fall c d) : Fall a d := ⟨h.1.trans k.1, fun x => Nat.le_trans (h.2 x) (k.2 x)⟩
theorem setM_at {l : List Nat} {x y v : Nat} (h : x < l.length) : (l.set x v).getD y 0 = if y = x then v else l.getD y 0 := by
  by_cases e : y = x
  · subst e
    rw [if_pos rfl, List.getD_eq_getElem?_getD, List.getElem?_set_self h]; rfl
  · rw [if_neg e, List.getD_eq_getElem?_getD, List.getElem?_set_ne (fun z => e z.symm), List.getD_eq_getElem?_getD]
theorem updM_at {l : List Nat} {x y : Nat} (hx : x < l.length) (hy : y < l.length) (h : b x y = true) (z : Nat) : (updM b x l y).getD z 0 = if z = y ∨ z = x then lowM l x y else l.getD z 0 := by
  unfold updM
  rw [if_pos h, setM_at (by rw [List.length_set]; exact hy), setM_at hx]
  by_cases e : z = y
  · rw [if_pos e, if_pos (.inl e)]
  · rw [if_neg e]
    by_cases e2 : z = x
    · rw [if_pos e2, if_pos (.inr e2)]
    · rw [if_neg e2, if_neg fun q => q.elim e e2]
theorem updM_fall {l : List Nat} {x y : Nat} (hx : x < l.length) (hy : y < l.length) : Fall (updM b x l y) l := by
  by_cases h : b x y = true
  · refine ⟨by unfold updM; rw [if_pos h, List.length_set, List.length_set], fun z => ?_⟩
    rw [updM_at hx hy h]
    split
    · rename_i q
      rcases q with rfl | rfl
      · exact Nat.min_le_right ..
      · exact Nat.min_le_left ..
    · exact Nat.le_refl _
  · unfold updM
    rw [if_neg h]
    exact Fall.refl l
theorem fold_fall {f : List Nat → Nat → List Nat} {n : Nat} : ∀ (as : List Nat), (∀ a ∈ as, ∀ l : List Nat, l.length = n → Fall (f l a) l) → ∀ l : List Nat, l.length = n → Fall (as.foldl f l) l
  | [], _, l, _ => Fall.refl l
  | a :: as, h, l, hl => by
    have h1 := h a (List.mem_cons_self ..) l hl
    exact (fold_fall as (fun c hc => h c (List.mem_cons_of_mem _ hc)) (f l a) (h1.1.trans hl)).trans h1
theorem fold_edge {f : List Nat → Nat → List Nat} {n x z : Nat} : ∀ (as : List Nat), (∀ a ∈ as, ∀ l : List Nat, l.length = n → Fall (f l a) l) → ∀ a ∈ as, (∀ l : List Nat, l.length = n → (f l a).getD x 0 ≤ l.getD z 0) → ∀ l : List Nat, l.length = n → (as.foldl f l).getD x 0 ≤ l.getD z 0
  | c :: as, h, a, ha, he, l, hl => by
    have h1 := h c (List.mem_cons_self ..) l hl
    have hs := fun d hd => h d (List.mem_cons_of_mem _ hd)
    rcases List.mem_cons.mp ha with rfl | ha
    · exact Nat.le_trans ((fold_fall as hs (f l a) (h1.1.trans hl)).2 x) (he l hl)
    · exact Nat.le_trans (fold_edge as hs a ha he (f l c) (h1.1.trans hl)) (h1.2 z)
theorem rowM_fall {l : List Nat} {x : Nat} (hl : l.length = n) (hx : x < n) : Fall (rowM b l x) l :=
  fold_fall (n := n) (List.range x) (fun y hy l hl => updM_fall (by omega) (by have := List.mem_range.mp hy; omega)) l hl
theorem passM_fall {l : List Nat} (hl : l.length = n) : Fall (passM n b l) l :=
  fold_fall (n := n) (List.range n) (fun x hx l hl => rowM_fall hl (List.mem_range.mp hx)) l hl
theorem passM_edge (sy : ∀ x y, b x y = b y x) {l : List Nat} (hl : l.length = n) {x z : Nat} (hx : x < n) (hz : z < n) (h : b z x = true) : (passM n b l).getD x 0 ≤ l.getD z 0 := by
  rcases Nat.lt_trichotomy x z with c | c | c
  · refine fold_edge (n := n) (List.range n) (fun x hx l hl => rowM_fall hl (List.mem_range.mp hx)) z (List.mem_range.mpr hz) (fun l hl => ?_) l hl
    refine fold_edge (n := n) (List.range z) (fun y hy l hl => updM_fall (by omega) (by have := List.mem_range.mp hy; omega)) x (List.mem_range.mpr c) (fun l hl => ?_) l hl
    rw [updM_at (by omega) (by omega) h, if_pos (.inl rfl)]
    exact Nat.min_le_left ..
  · rw [c]; exact (passM_fall hl).2 z
  · refine fold_edge (n := n) (List.range n) (fun x hx l hl => rowM_fall hl (List.mem_range.mp hx)) x (List.mem_range.mpr hx) (fun l hl => ?_) l hl
    refine fold_edge (n := n) (List.range x) (fun y hy l hl => updM_fall (by omega) (by have := List.mem_range.mp hy; omega)) z (List.mem_range.mpr c) (fun l hl => ?_) l hl
    rw [updM_at (by omega) (by omega) (by rw [sy]; exact h), if_pos (.inr rfl)]
    exact Nat.min_le_right ..
/-- labels stay within their classes -/
def InC (n : Nat) (b : Nat → Nat → Bool) (l : List Nat) : Prop := l.length = n ∧ ∀ x, x < n → Con n b x (l.getD x 0)
theorem updM_in (sy : ∀ x y, b x y = b y x) {l : List Nat} (I : InC n b l) {x y : Nat} (hx : x < n) (hy : y < n) : InC n b (updM b x l y) := by
  have hl := I.1
  refine ⟨(updM_fall (b := b) (x := x) (y := y) (by omega) (by omega)).1.trans hl, fun z hz => ?_⟩
  by_cases h : b x y = true
  · rw [updM_at (by omega) (by omega) h]
    have hxy : Con n b x y := .step .refl hy h
    have hyx := hxy.symm sy hx
    have low : lowM l x y = l.getD x 0 ∨ lowM l x y = l.getD y 0 := by unfold lowM; omega
    split
    · rename_i q
      rcases q with rfl | rfl
      · rcases low with e | e <;> rw [e]
        · exact hyx.trans (I.2 x hx)
        · exact I.2 z hy
      · rcases low with e | e <;> rw [e]
        · exact I.2 z hx
        · exact hxy.trans (I.2 y hy)
    · exact I.2 z hz
  · unfold updM
    rw [if_neg h]
    exact I.2 z hz
theorem fold_in {f : List Nat → Nat → List Nat} {P : List Nat → Prop} : ∀ (as : List Nat), (∀ a ∈ as, ∀ l, P l → P (f l a)) → ∀ l, P l → P (as.foldl f l)
  | [], _, l, h => h
  | a :: as, hf, l, h => fold_in as (fun c hc => hf c (List.mem_cons_of_mem _ hc)) _ (hf a (List.mem_cons_self ..) l h)
theorem passM_in (sy : ∀ x y, b x y = b y x) {l : List Nat} (I : InC n b l) : InC n b (passM n b l) :=
  fold_in (f := rowM b) (P := InC n b) (List.range n) (fun x hx l I => fold_in (f := updM b x) (P := InC n b) (List.range x) (fun y hy l I => updM_in sy I (List.mem_range.mp hx) (by have := List.mem_range.mp hx; have := List.mem_range.mp hy; omega)) l I) l I
def runM (n : Nat) (b : Nat → Nat → Bool) : Nat → List Nat
  | 0 => List.range n
  | t + 1 => passM n b (runM n b t)
theorem runM_in (sy : ∀ x y, b x y = b y x) : ∀ t, InC n b (runM n b t)
  | 0 => ⟨List.length_range, fun x hx => by
    show Con n b x ((List.range n).getD x 0)
    rw [List.getD_eq_getElem?_getD, List.getElem?_range hx]; exact .refl⟩
  | t + 1 => passM_in sy (runM_in sy t)
theorem runM_low (sy : ∀ x y, b x y = b y x) : ∀ (t : Nat) {x y : Nat}, x < n → y < n → lyr n b y t x = true → (runM n b t).getD x 0 ≤ y
  | 0, x, y, hx, _, h => by
    have e := of_decide_eq_true (show decide (x = y) = true from h)
    show (List.range n).getD x 0 ≤ y
    rw [List.getD_eq_getElem?_getD, List.getElem?_range hx, e]; exact Nat.le_refl _
  | t + 1, x, y, hx, hy, h => by
    have hl := (runM_in (n := n) sy t).1
    rcases (Bool.or_eq_true _ _).mp (show (lyr n b y t x || _) = true from h) with h | h
    · exact Nat.le_trans ((passM_fall hl).2 x) (runM_low sy t hx hy h)
    · obtain ⟨z, hz, k⟩ := List.any_eq_true.mp h
      obtain ⟨k1, k2⟩ := (Bool.and_eq_true _ _).mp k
      have hz := List.mem_range.mp hz
      exact Nat.le_trans (passM_edge sy hl hx hz k2) (runM_low sy t hz hy k1)
/-- the labels behind n turns -/
def labM (n : Nat) (b : Nat → Nat → Bool) (x : Nat) : Nat := (runM n b n).getD x 0
theorem lab_con (sy : ∀ x y, b x y = b y x) {x : Nat} (hx : x < n) : Con n b x (labM n b x) := (runM_in sy n).2 x hx
theorem lab_low (sy : ∀ x y, b x y = b y x) {x y : Nat} (hx : x < n) (hy : y < n) (h : Con n b y x) : labM n b x ≤ y := runM_low sy n hx hy ((conB_iff hy hx).mpr h)
theorem mins_iff {k m : Nat} (hk : k ≤ n) : m ∈ minsM n b k ↔ m < k ∧ ∀ y, y < m → ¬ Con n b y m := by
  rw [minsM, List.mem_filter, List.mem_range, List.all_eq_true]
  constructor
  · rintro ⟨h1, h2⟩
    refine ⟨h1, fun y hy c => ?_⟩
    have := h2 y (List.mem_range.mpr hy)
    rw [(conB_iff (by omega) (by omega)).mpr c] at this
    cases this
  · rintro ⟨h1, h2⟩
    refine ⟨h1, fun y hy => ?_⟩
    have hy := List.mem_range.mp hy
    cases e : conB n b y m with
    | false => rfl
    | true => exact absurd ((conB_iff (by omega) (by omega)).mp e) (h2 y hy)
theorem lab_mins (sy : ∀ x y, b x y = b y x) {m : Nat} : m ∈ minsM n b n ↔ ∃ x, x < n ∧ labM n b x = m := by
  rw [mins_iff (Nat.le_refl _)]
  constructor
  · rintro ⟨h1, h2⟩
    refine ⟨m, h1, ?_⟩
    have a := lab_con sy h1
    have c := lab_low sy h1 h1 .refl
    rcases Nat.lt_or_ge (labM n b m) m with q | q
    · exact absurd (a.symm sy h1) (h2 _ q)
    · omega
  · rintro ⟨x, hx, rfl⟩
    have a := lab_con sy hx
    refine ⟨a.lt hx, fun y hy c => ?_⟩
    have hy2 : y < n := by have := a.lt hx; omega
    have := lab_low sy hx hy2 (c.trans (a.symm sy hx))
    omega
theorem lab_eq (sy : ∀ x y, b x y = b y x) {m y : Nat} (hm : m ∈ minsM n b n) (hy : y < n) : labM n b y = m ↔ Con n b m y := by
  obtain ⟨h1, h2⟩ := (mins_iff (Nat.le_refl _)).mp hm
  constructor
  · intro e
    have := lab_con sy hy
    rw [e] at this
    exact this.symm sy hy
  · intro c
    have a := lab_con sy hy
    have d := lab_low sy hy h1 c
    rcases Nat.lt_or_ge (labM n b y) m with q | q
    · exact absurd ((a.symm sy hy).trans (c.symm sy h1)) (h2 _ q)
    · omega
end

end LK

namespace LK
open PySem L2 PySem.Spec DL
/-! ### rivals and components, by the program -/
abbrev Les := Int × Int
def lsA (ls : List Les) (i : Nat) : Les := ls.getD i (0, 0)
theorem at_getD {α β : Type} {f : α → β} {l : List α} {i : Nat} (h : i < l.length) (d : α) : atI (l.map f) ((i : Nat) : Int) = some (f (l.getD i d)) := by
  have h' : i < (l.map f).length := by simpa using h
  rw [at_nat h', List.getElem_map, List.getD_eq_getElem?_getD, List.getElem?_eq_getElem h]; rfl
theorem ros_ix {R : Ros} : gIx (rosD R) (.int 2) = some (.tuple (R.ls.map les)) := by simp [rosD]
theorem ls_ix {R : Ros} {x : Nat} (hx : x < R.ls.length) : gIx (.tuple (R.ls.map les)) (natD x) = some (les (lsA R.ls x)) := at_getD hx (0, 0)
def rowD (r : List Nat) : PyData := .tuple (r.map natD)
theorem asc_eq {l r : List Nat} (hl : l.Pairwise (· < ·)) (hr : r.Pairwise (· < ·)) (h : ∀ x, x ∈ l ↔ x ∈ r) : l = r := by
  have p : l.Perm r := (List.perm_ext_iff_of_nodup (hl.imp fun h => Nat.ne_of_lt h) (hr.imp fun h => Nat.ne_of_lt h)).mpr h
  exact p.eq_of_pairwise (fun a b _ _ h1 h2 => absurd h1 (Nat.not_lt.mpr (Nat.le_of_lt h2))) hl hr
theorem nodup_leN {l r : List Nat} (nd : l.Nodup) (sub : ∀ x ∈ l, x ∈ r) : l.length ≤ r.length := by
  induction l generalizing r with
  | nil => exact Nat.zero_le _
  | cons a l ih =>
    have nd := List.nodup_cons.mp nd
    have := ih (r := r.erase a) nd.2 fun x hx => (List.mem_erase_of_ne (fun e => nd.1 (by rw [← e]; exact hx))).mpr (sub x (List.mem_cons_of_mem _ hx))
    have ha := sub a (List.mem_cons_self ..)
    rw [List.length_erase_of_mem ha] at this
    have := List.length_pos_of_mem ha
    rw [List.length_cons]; omega
def shB (R : Ros) (x y : Nat) : Bool := decide ((lsA R.ls x).1 = (lsA R.ls y).1) || decide ((lsA R.ls x).2 = (lsA R.ls y).2)
theorem shB_symm (R : Ros) (x y : Nat) : shB R x y = shB R y x := by
  unfold shB
  rw [decide_eq_decide.mpr (eq_comm (a := (lsA R.ls x).1)), decide_eq_decide.mpr (eq_comm (a := (lsA R.ls x).2))]
theorem ls_i0 (p : Les) : gIx (les p) (.int 0) = some (.int p.1) := at0
theorem ls_i1 (p : Les) : gIx (les p) (.int 1) = some (.int p.2) := at1
theorem ifB_or (a b : Bool) : ifB (PyData.bool a) (some (PyData.bool true)) (some (PyData.bool b)) = some (PyData.bool (a || b)) := by cases a <;> rfl
theorem ifB_and (a b : Bool) : ifB (PyData.bool a) (some (PyData.bool b)) (some (PyData.bool false)) = some (PyData.bool (a && b)) := by cases a <;> rfl
theorem riv_ok {R : Ros} {x y : Nat} (hx : x < R.ls.length) (hy : y < R.ls.length) : f_are_rivals (rosD R) (natD x) (natD y) = some (.bool (decide (x ≠ y) && shB R x y)) := by
  have ne : gNe (natD x) (natD y) = some (.bool (decide (x ≠ y))) := by
    show gNe (.int _) (.int _) = _
    rw [xNe]
    by_cases c : x = y
    · simp [c]
    · have : ¬ ((x : Nat) : Int) = (y : Nat) := by omega
      simp [c, this]
  simp only [f_are_rivals, ros_ix, Option.bind_some, ls_ix hx, ls_ix hy, ne, ls_i0, ls_i1, xEq, ifB_or, ifB_and]
  rfl
def rivL (R : Ros) (x : Nat) : List Nat := (List.range R.ls.length).filter fun y => decide (x ≠ y) && shB R x y
theorem len_ls (R : Ros) : gLen (.tuple (R.ls.map les)) = some (.int (R.ls.length : Nat)) := by
  show some (PyData.int (((R.ls.map les).length : Nat) : Int)) = _
  rw [List.length_map]
theorem rivals_ok {R : Ros} (hl : R.ls.length ≤ 1000) {x : Nat} (hx : x < R.ls.length) : f_rivals (rosD R) (natD x) = some (rowD (rivL R x)) := by
  have a1 : rng1 (.int (R.ls.length : Nat)) = some ((List.range R.ls.length).map natD) := rng1_nat (by omega)
  have f1 : filS ((List.range R.ls.length).map natD) (C_rivals_1 (rosD R) (natD x)) = some ((rivL R x).map natD) := filS_of fun y hy => by
    have tr : ∀ b : Bool, gTruth (.bool b) = some b := fun b => rfl
    simp only [C_rivals_1, riv_ok hx (List.mem_range.mp hy), Option.bind_some, tr]
    split <;> rfl
  simp only [f_rivals, ros_ix, len_ls, Option.bind_some, a1, f1, xTupL]
  rfl
/-! the search -/
structure CI (R : Ros) (x : Nat) (Rs W : List Nat) : Prop where
  nd : Rs.Nodup
  lt : ∀ y ∈ Rs, y < R.ls.length
  mem : x ∈ Rs
  con : ∀ y ∈ Rs, Con R.ls.length (shB R) x y
  sub : ∀ w ∈ W, w ∈ Rs
  wnd : W.Nodup
  done : ∀ z ∈ Rs, z ∉ W → ∀ y, y < R.ls.length → shB R z y = true → y ∈ Rs
def moreL (R : Ros) (Rs : List Nat) (w : Nat) : List Nat := (rivL R w).filter fun y => !decide (y ∈ Rs)
theorem ci_step {R : Ros} {x w : Nat} {Rs W : List Nat} (I : CI R x Rs (W ++ [w])) : CI R x (Rs ++ moreL R Rs w) (W ++ moreL R Rs w) := by
  have hw := I.sub w (List.mem_append_right _ (List.mem_singleton.mpr rfl))
  have wl := I.lt w hw
  have wn := List.nodup_append.mp I.wnd
  have mm : ∀ {y}, y ∈ moreL R Rs w ↔ (y < R.ls.length ∧ w ≠ y ∧ shB R w y = true) ∧ y ∉ Rs := fun {y} => by
    simp [moreL, rivL]
    constructor
    · rintro ⟨a, b, c, d⟩; exact ⟨⟨a, c, d⟩, b⟩
    · rintro ⟨⟨a, c, d⟩, b⟩; exact ⟨a, b, c, d⟩
  have mnd : (moreL R Rs w).Nodup := (List.nodup_range.filter _).filter _
  refine ⟨List.nodup_append.mpr ⟨I.nd, mnd, fun a ha b hb e => (mm.mp hb).2 (e ▸ ha)⟩, fun y hy => ?_, List.mem_append_left _ I.mem, fun y hy => ?_, fun y hy => ?_, List.nodup_append.mpr ⟨wn.1, mnd, fun a ha b hb e => (mm.mp hb).2 (e ▸ I.sub a (List.mem_append_left _ ha))⟩, fun z hz nz y hy hb => ?_⟩
  · rcases List.mem_append.mp hy with h | h
    · exact I.lt y h
    · exact (mm.mp h).1.1
  · rcases List.mem_append.mp hy with h | h
    · exact I.con y h
    · exact .step (I.con w hw) (mm.mp h).1.1 (mm.mp h).1.2.2
  · rcases List.mem_append.mp hy with h | h
    · exact List.mem_append_left _ (I.sub y (List.mem_append_left _ h))
    · exact List.mem_append_right _ h
  · have zR : z ∈ Rs := by
      rcases List.mem_append.mp hz with h | h
      · exact h
      · exact absurd (List.mem_append_right _ h) nz
    have zW : z ∉ W := fun h => nz (List.mem_append_left _ h)
    by_cases e : z = w
    · subst e
      by_cases c : y ∈ Rs
      · exact List.mem_append_left _ c
      · refine List.mem_append_right _ (mm.mpr ⟨⟨hy, fun q => c (q ▸ zR), hb⟩, c⟩)
    · exact List.mem_append_left _ (I.done z zR (fun h => by
        rcases List.mem_append.mp h with h | h
        · exact zW h
        · exact e (List.mem_singleton.mp h)) y hy hb)
theorem ci_end {R : Ros} {x : Nat} {Rs : List Nat} (hx : x < R.ls.length) (I : CI R x Rs []) (y : Nat) : y ∈ Rs ↔ y ∈ clsM R.ls.length (shB R) x := by
  rw [clsM, List.mem_filter, List.mem_range]
  constructor
  · intro h
    have hy := I.lt y h
    exact ⟨hy, (conB_iff hx hy).mpr (I.con y h)⟩
  · rintro ⟨hy, h⟩
    have h := (conB_iff hx hy).mp h
    induction h with
    | refl => exact I.mem
    | @step y z h1 h2 h3 ih => exact I.done y (ih (h1.lt hx) ((conB_iff hx (h1.lt hx)).mpr h1)) (by simp) z h2 h3
theorem comp_loop {R : Ros} (hl : R.ls.length ≤ 1000) {x : Nat} : ∀ (m : Nat) (Rs W : List Nat), CI R x Rs W → 2 * (R.ls.length - Rs.length) + W.length < m →
    ∃ Rs' : List Nat, whS m WL_component_of_1 (L_component_of_1 (rosD R)) (.list (Rs.map natD), .list (W.map natD)) = some (.list (Rs'.map natD), .list []) ∧ CI R x Rs' []
  | 0, _, _, _, h => absurd h (Nat.not_lt_zero _)
  | m + 1, Rs, W, I, h => by
    have cnd : WL_component_of_1 (.list (Rs.map natD), .list (W.map natD)) = some (!W.isEmpty) := by
      have : gNe (.list (W.map natD)) (.list []) = some (.bool (!(W.map natD).isEmpty)) := xNeNilL
      simp only [WL_component_of_1, this, Option.bind_some, asB_bool]
      cases W <;> rfl
    by_cases c : W = []
    · subst c
      exact ⟨Rs, whS_end cnd, I⟩
    · obtain ⟨W0, w, rfl⟩ : ∃ W0 w, W = W0 ++ [w] := ⟨W.dropLast, W.getLast c, (List.dropLast_concat_getLast c).symm⟩
      have I' := ci_step I
      have hw := I.lt w (I.sub w (List.mem_append_right _ (List.mem_singleton.mpr rfl)))
      have b1 : ∀ {Q V : List Nat}, CI R x Q V → Q.length ≤ R.ls.length := fun I => by
        have := nodup_leN (r := List.range R.ls.length) I.nd fun y hy => List.mem_range.mpr (I.lt y hy)
        rwa [List.length_range] at this
      have b2 : ∀ {Q V : List Nat}, CI R x Q V → V.length ≤ R.ls.length := fun I => by
        have := nodup_leN (r := List.range R.ls.length) I.wnd fun y hy => List.mem_range.mpr (I.lt y (I.sub y hy))
        rwa [List.length_range] at this
      have q1 := b1 I
      have q2 := b1 I'
      have q3 := b2 I
      have q4 := b2 I'
      rw [List.length_append] at q2 q4
      rw [List.length_append, List.length_singleton] at q3
      obtain ⟨Rs', e, J⟩ := comp_loop hl m _ _ I' (by rw [List.length_append, List.length_append]; rw [List.length_append, List.length_singleton] at h; omega)
      refine ⟨Rs', ?_, J⟩
      have pop : gPop (.list ((W0 ++ [w]).map natD)) = some (natD w, .list (W0.map natD)) := by
        rw [List.map_append, List.map_singleton]
        simp [gPop]
      have sq : seqD (rowD (rivL R w)) = some ((rivL R w).map natD) := rfl
      have fl : filS ((rivL R w).map natD) (C_component_of_1 (.list (Rs.map natD))) = some ((moreL R Rs w).map natD) := filS_of fun y _ => by
        simp only [C_component_of_1, notin_list, Option.bind_some, asB_bool]
        split <;> rfl
      have x1 : gExt (.list (Rs.map natD)) (.list ((moreL R Rs w).map natD)) = some (.list ((Rs ++ moreL R Rs w).map natD)) := by
        rw [xExt (by rw [List.length_map, List.length_map]; omega), List.map_append]
      have x2 : gExt (.list (W0.map natD)) (.list ((moreL R Rs w).map natD)) = some (.list ((W0 ++ moreL R Rs w).map natD)) := by
        rw [xExt (by rw [List.length_map, List.length_map]; omega), List.map_append]
      have st : L_component_of_1 (rosD R) (.list (Rs.map natD), .list ((W0 ++ [w]).map natD)) = some (.list ((Rs ++ moreL R Rs w).map natD), .list ((W0 ++ moreL R Rs w).map natD)) := by
        simp only [L_component_of_1, pop, Option.bind_some, rivals_ok hl hw, sq, fl, x1, x2]
      rw [whS_step (by rw [cnd]; simp) st]
      exact e
theorem cls_asc (n : Nat) (b : Nat → Nat → Bool) (x : Nat) : (clsM n b x).Pairwise (· < ·) := List.pairwise_lt_range.filter _
theorem comp_ok {R : Ros} (hl : R.ls.length ≤ 1000) {x : Nat} (hx : x < R.ls.length) : f_component_of (rosD R) (natD x) = some (rowD (clsM R.ls.length (shB R) x)) := by
  have I0 : CI R x [x] [x] := ⟨by simp, fun y hy => by rw [List.mem_singleton.mp hy]; exact hx, by simp, fun y hy => by rw [List.mem_singleton.mp hy]; exact .refl, fun w h => h, by simp, fun z hz nz => absurd hz nz⟩
  obtain ⟨Rs, e, J⟩ := comp_loop hl fuel [x] [x] I0 (by show _ < 1048576; simp; omega)
  have e : whS fuel WL_component_of_1 (L_component_of_1 (rosD R)) (.list [natD x], .list [natD x]) = some (.list (Rs.map natD), .list []) := e
  obtain ⟨L, s1, s2, s3⟩ := sort_asc J.nd
  have eL : L = clsM R.ls.length (shB R) x := asc_eq s3 (cls_asc _ _ _) fun y => by rw [s2.mem_iff]; exact ci_end hx J y
  simp only [f_component_of, e, Option.bind_some, s1, xTupL, eL]
  rfl
/-! the components, one after the other -/
theorem putI_key {α : Type} {ds : List (Int × α)} {i j : Int} {t : α} : j ∈ (putI ds i t).map (·.1) ↔ j = i ∨ j ∈ ds.map (·.1) := by
  unfold putI
  split
  · rename_i h
    have e : (ds.map fun p => if p.1 = i then (p.1, t) else p).map (·.1) = ds.map (·.1) := by
      rw [List.map_map]
      refine List.map_congr_left fun p _ => ?_
      show (if p.1 = i then (p.1, t) else p).1 = p.1
      split <;> rfl
    rw [e]
    constructor
    · exact .inr
    · rintro (rfl | h')
      · obtain ⟨p, hp, k⟩ := List.any_eq_true.mp h
        exact List.mem_map.mpr ⟨p, hp, of_decide_eq_true k⟩
      · exact h'
  · rw [List.map_append, List.mem_append, List.map_singleton, List.mem_singleton]
    exact or_comm
theorem yes_key {α : Type} {t : α} {j : Int} : ∀ {is : List Int} {acc : List (Int × α)}, j ∈ (is.foldl (fun acc i => putI acc i t) acc).map (·.1) ↔ j ∈ is ∨ j ∈ acc.map (·.1)
  | [], acc => by simp
  | i :: is, acc => by
    rw [List.foldl_cons, yes_key, putI_key, List.mem_cons]
    constructor
    · rintro (h | h | h)
      · exact .inl (.inr h)
      · exact .inl (.inl h)
      · exact .inr h
    · rintro ((h | h) | h)
      · exact .inr (.inl h)
      · exact .inl h
      · exact .inr (.inr h)
theorem join_key {α : Type} {j : Int} : ∀ {more kvs : List (Int × α)}, j ∈ (joinI more kvs).map (·.1) ↔ j ∈ more.map (·.1) ∨ j ∈ kvs.map (·.1)
  | [], kvs => by simp [joinI]
  | p :: more, kvs => by
    show j ∈ (joinI more (putI kvs p.1 p.2)).map (·.1) ↔ _
    rw [join_key, putI_key, List.map_cons, List.mem_cons]
    constructor
    · rintro (h | h | h)
      · exact .inl (.inr h)
      · exact .inl (.inl h)
      · exact .inr h
    · rintro ((h | h) | h)
      · exact .inr (.inl h)
      · exact .inl h
      · exact .inr (.inr h)
theorem valI_some {ds : List (Int × PyData)} {i : Int} : (valI ds i).isSome = decide (i ∈ ds.map (·.1)) := by
  unfold valI
  rw [Bool.eq_iff_iff, decide_eq_true_eq, Option.isSome_map, List.find?_isSome, List.mem_map]
  constructor
  · rintro ⟨p, hp, h⟩
    exact ⟨p, hp, of_decide_eq_true h⟩
  · rintro ⟨p, hp, h⟩
    exact ⟨p, hp, decide_eq_true h⟩
theorem intsOf_nats (l : List Nat) : intsOf (l.map natD) = some (l.map fun x => ((x : Nat) : Int)) := by
  induction l with
  | nil => rfl
  | cons a l ih =>
    show (intsOf (l.map natD)).map _ = _
    rw [ih]; rfl
theorem mins_next {n : Nat} {b : Nat → Nat → Bool} {k : Nat} : minsM n b (k + 1) = minsM n b k ++ (if ((List.range k).all fun y => !conB n b y k) = true then [k] else []) := by
  unfold minsM
  rw [List.range_succ, List.filter_append]
  congr 1
  rw [List.filter_cons]
  split <;> rfl
theorem comps_ok {R : Ros} (hl : R.ls.length ≤ 16) : f_lesson_components (rosD R) = some (.tuple ((minsM R.ls.length (shB R) R.ls.length).map fun m => rowD (clsM R.ls.length (shB R) m))) := by
  have sy := shB_symm R
  have a1 : rng1 (.int (R.ls.length : Nat)) = some ((List.range R.ls.length).map natD) := rng1_nat (by omega)
  obtain ⟨s, e, ds, rfl, _, _⟩ := foldS_range (f := L_lesson_components_1 (rosD R)) (s := (.dict [], .list [])) (n := R.ls.length)
    (fun k s => ∃ ds : List (Int × PyData), s = (.dict (ds.map kvD), .list ((minsM R.ls.length (shB R) k).map fun m => rowD (clsM R.ls.length (shB R) m))) ∧ ds.length ≤ 16 * k ∧ ∀ j : Int, j ∈ ds.map (·.1) ↔ ∃ y : Nat, j = (y : Int) ∧ ∃ x, x < k ∧ Con R.ls.length (shB R) x y)
    ⟨[], rfl, Nat.zero_le _, fun j => ⟨fun h => (by cases h), fun ⟨_, _, x, h, _⟩ => absurd h (Nat.not_lt_zero _)⟩⟩ fun k s hk hs => by
      obtain ⟨ds, rfl, hd, hkeys⟩ := hs
      have nin : gDNotIn (.dict (ds.map kvD)) (natD k) = some (.bool (!decide (((k : Nat) : Int) ∈ ds.map (·.1)))) := by
        show some (PyData.bool (!(lookD (ds.map kvD) (k : Nat)).isSome)) = _
        rw [look_map, valI_some]
      have mins : minsM R.ls.length (shB R) (k + 1) = minsM R.ls.length (shB R) k ++ (if ((k : Nat) : Int) ∈ ds.map (·.1) then [] else [k]) := by
        rw [mins_next]
        congr 1
        by_cases c : ((k : Nat) : Int) ∈ ds.map (·.1)
        · rw [if_pos c, if_neg]
          intro h
          obtain ⟨y, hy, x, hx, hc⟩ := (hkeys _).mp c
          have : y = k := by omega
          subst this
          have h1 := List.all_eq_true.mp h x (List.mem_range.mpr hx)
          rw [(conB_iff (by omega) hk).mpr hc] at h1
          cases h1
        · rw [if_neg c, if_pos]
          rw [List.all_eq_true]
          intro x hx
          have hx := List.mem_range.mp hx
          cases q : conB R.ls.length (shB R) x k with
          | false => rfl
          | true => exact absurd ((hkeys _).mpr ⟨k, rfl, x, hx, (conB_iff (by omega) hk).mp q⟩) c
      by_cases c : ((k : Nat) : Int) ∈ ds.map (·.1)
      · refine ⟨(.dict (ds.map kvD), .list ((minsM R.ls.length (shB R) k).map fun m => rowD (clsM R.ls.length (shB R) m))), ?_, ds, ?_, by omega, fun j => ?_⟩
        · simp only [L_lesson_components_1, nin, Option.bind_some, asB_bool, decide_eq_true c, Bool.not_true, Bool.false_eq_true, if_false]
        · rw [mins, if_pos c, List.append_nil]
        · rw [hkeys]
          obtain ⟨y0, hy0, x0, hx0, hc0⟩ := (hkeys _).mp c
          have : y0 = k := by omega
          subst this
          constructor
          · rintro ⟨y, h1, x, h2, h3⟩
            exact ⟨y, h1, x, by omega, h3⟩
          · rintro ⟨y, h1, x, h2, h3⟩
            by_cases ex : x = y0
            · subst ex
              exact ⟨y, h1, x0, hx0, hc0.trans h3⟩
            · exact ⟨y, h1, x, by omega, h3⟩
      · have cl : (clsM R.ls.length (shB R) k).length ≤ 16 := by
          have := List.length_filter_le (conB R.ls.length (shB R) k) (List.range R.ls.length)
          rw [List.length_range] at this
          unfold clsM; omega
        have ml : (minsM R.ls.length (shB R) k).length ≤ 16 := by
          have := List.length_filter_le (fun x => (List.range x).all fun y => !conB R.ls.length (shB R) y x) (List.range k)
          rw [List.length_range] at this
          unfold minsM; omega
        have up : gUpdT (.dict (ds.map kvD)) (rowD (clsM R.ls.length (shB R) k)) = some (.dict ((joinI (yesI ((clsM R.ls.length (shB R) k).map fun x => ((x : Nat) : Int)) (.bool true)) ds).map kvD)) := by
          show ((dictI (ds.map kvD)).bind fun ds' => (intsOf ((clsM R.ls.length (shB R) k).map natD)).bind fun is => _) = _
          rw [dictI_map, intsOf_nats]
          show (if _ then _ else _) = _
          rw [if_pos (by rw [List.length_map, List.length_map]; omega)]
        have ap : gApp (.list ((minsM R.ls.length (shB R) k).map fun m => rowD (clsM R.ls.length (shB R) m))) (rowD (clsM R.ls.length (shB R) k)) = some (.list ((minsM R.ls.length (shB R) k ++ [k]).map fun m => rowD (clsM R.ls.length (shB R) m))) := by
          rw [xApp (by rw [List.length_map]; omega), List.map_append]; rfl
        refine ⟨(.dict ((joinI (yesI ((clsM R.ls.length (shB R) k).map fun x => ((x : Nat) : Int)) (.bool true)) ds).map kvD), .list ((minsM R.ls.length (shB R) k ++ [k]).map fun m => rowD (clsM R.ls.length (shB R) m))), ?_, joinI (yesI ((clsM R.ls.length (shB R) k).map fun x => ((x : Nat) : Int)) (.bool true)) ds, ?_, ?_, fun j => ?_⟩
        · have cp : f_component_of (rosD R) (natD k) = some (rowD (clsM R.ls.length (shB R) k)) := comp_ok (by omega) hk
          simp only [L_lesson_components_1, nin, Option.bind_some, asB_bool, decide_eq_false c, Bool.not_false, if_true, cp, up, ap]
        · rw [mins, if_neg c]
        · have h1 := joinI_len (yesI ((clsM R.ls.length (shB R) k).map fun x => ((x : Nat) : Int)) (PyData.bool true)) ds
          have h2 := yesI_len (PyData.bool true) ((clsM R.ls.length (shB R) k).map fun x => ((x : Nat) : Int))
          rw [List.length_map] at h2
          omega
        · rw [join_key]
          unfold yesI
          rw [yes_key, hkeys]
          constructor
          · rintro ((h | h) | ⟨y, h1, x, h2, h3⟩)
            · obtain ⟨y, hy, rfl⟩ := List.mem_map.mp h
              obtain ⟨h1, h2⟩ := List.mem_filter.mp hy
              exact ⟨y, rfl, k, by omega, (conB_iff hk (List.mem_range.mp h1)).mp h2⟩
            · cases h
            · exact ⟨y, h1, x, by omega, h3⟩
          · rintro ⟨y, rfl, x, h2, h3⟩
            by_cases ex : x = k
            · subst ex
              have hy := h3.lt hk
              exact .inl (.inl (List.mem_map.mpr ⟨y, List.mem_filter.mpr ⟨List.mem_range.mpr hy, (conB_iff hk hy).mpr h3⟩, rfl⟩))
            · exact .inr ⟨y, rfl, x, by omega, h3⟩
  simp only [f_lesson_components, ros_ix, len_ls, Option.bind_some, a1, e, xTupL]

end LK

namespace LK
open PySem L2 PySem.Spec DL
/-! ### the law's own classes -/
theorem share_ok {R : Ros} {x y : Nat} (hx : x < R.ls.length) (hy : y < R.ls.length) : f__law_share (rosD R) (natD x) (natD y) = some (.bool (shB R x y)) := by
  simp only [f__law_share, ros_ix, Option.bind_some, ls_ix hx, ls_ix hy, ls_i0, ls_i1, xEq, ifB_or]
  rfl
theorem tru (b : Bool) : gTruth (.bool b) = some b := rfl
def labD (l : List Nat) : PyData := .list (l.map natD)
theorem item_lab {l : List Nat} {x : Nat} (h : x < l.length) : itemD (labD l) (natD x) = some (natD (l.getD x 0)) := at_getD (f := natD) h 0
theorem ix_lab {l : List Nat} {x : Nat} (h : x < l.length) : gIx (labD l) (natD x) = some (natD (l.getD x 0)) := at_getD (f := natD) h 0
theorem set_lab {l : List Nat} {x v : Nat} (h : x < l.length) : gSet (labD l) (natD x) (natD v) = some (labD (l.set x v)) := by
  unfold labD
  rw [List.map_set]
  exact xSet (by rw [List.length_map]; exact h)
theorem min2_nat (a b : Nat) : gMin2 (natD a) (natD b) = some (natD (min a b)) := by
  show some (PyData.int (if ((b : Nat) : Int) < (a : Nat) then ((b : Nat) : Int) else ((a : Nat) : Int))) = some (PyData.int ((min a b : Nat) : Int))
  congr 2
  split <;> omega
theorem upd_ok {R : Ros} {l : List Nat} (hl : l.length = R.ls.length) {x y : Nat} (hx : x < R.ls.length) (hy : y < R.ls.length) : L__law_classes_3 (rosD R) (natD x) (natD y) (labD l) = some (labD (updM (shB R) x l y)) := by
  have u : ∀ a b : PyData, un2 (.tuple [a, b]) = some (a, b) := fun a b => rfl
  simp only [L__law_classes_3, share_ok hx hy, Option.bind_some, tru]
  unfold updM
  split
  · rename_i h
    simp only [item_lab (show x < l.length by omega), item_lab (show y < l.length by omega), Option.bind_some, min2_nat, u, set_lab (show x < l.length by omega), set_lab (show y < (l.set x (min (l.getD x 0) (l.getD y 0))).length by rw [List.length_set]; omega)]
    rfl
  · rfl
theorem fold_lab {f : PyData → PyData → Option PyData} {g : List Nat → Nat → List Nat} {n : Nat} : ∀ (as : List Nat) (l : List Nat), l.length = n → (∀ a ∈ as, ∀ l : List Nat, l.length = n → f (natD a) (labD l) = some (labD (g l a)) ∧ (g l a).length = n) → foldS (as.map natD) f (labD l) = some (labD (as.foldl g l)) ∧ (as.foldl g l).length = n
  | [], l, hl, _ => ⟨rfl, hl⟩
  | a :: as, l, hl, h => by
    obtain ⟨h1, h2⟩ := h a (List.mem_cons_self ..) l hl
    obtain ⟨h3, h4⟩ := fold_lab as (g l a) h2 fun c hc => h c (List.mem_cons_of_mem _ hc)
    refine ⟨?_, h4⟩
    show (f (natD a) (labD l)).bind _ = _
    rw [h1]; exact h3
theorem row_ok {R : Ros} (h16 : R.ls.length ≤ 1000) {l : List Nat} (hl : l.length = R.ls.length) {x : Nat} (hx : x < R.ls.length) (z : PyData) : L__law_classes_2 (rosD R) (natD x) (labD l, z) = some (labD (rowM (shB R) l x), natD x) := by
  have a1 : rng1 (natD x) = some ((List.range x).map natD) := rng1_nat (by omega)
  obtain ⟨e, _⟩ := fold_lab (f := L__law_classes_3 (rosD R) (natD x)) (g := updM (shB R) x) (List.range x) l hl fun y hy l hl => ⟨upd_ok hl hx (by have := List.mem_range.mp hy; omega), (updM_fall (by omega) (by have := List.mem_range.mp hy; omega)).1.trans hl⟩
  simp only [L__law_classes_2, a1, Option.bind_some, e]
  rfl
theorem pass_fold {R : Ros} (h16 : R.ls.length ≤ 1000) : ∀ (as : List Nat) (l : List Nat) (z : PyData), l.length = R.ls.length → (∀ x ∈ as, x < R.ls.length) → ∃ z', foldS (as.map natD) (L__law_classes_2 (rosD R)) (labD l, z) = some (labD (as.foldl (rowM (shB R)) l), z')
  | [], l, z, _, _ => ⟨z, rfl⟩
  | x :: as, l, z, hl, h => by
    have hx := h x (List.mem_cons_self ..)
    obtain ⟨z', e⟩ := pass_fold h16 as (rowM (shB R) l x) (natD x) ((rowM_fall hl hx).1.trans hl) fun y hy => h y (List.mem_cons_of_mem _ hy)
    refine ⟨z', ?_⟩
    show (L__law_classes_2 (rosD R) (natD x) (labD l, z)).bind _ = _
    rw [row_ok h16 hl hx]; exact e
theorem len_lab (l : List Nat) : gLen (labD l) = some (.int (l.length : Nat)) := by
  show some (PyData.int (((l.map natD).length : Nat) : Int)) = _
  rw [List.length_map]
theorem turns_ok {R : Ros} (h16 : R.ls.length ≤ 1000) : ∀ t : Nat, ∃ z, foldS ((List.range t).map natD) (L__law_classes_1 (rosD R)) (labD (List.range R.ls.length), .none) = some (labD (runM R.ls.length (shB R) t), z) := fun t => by
  obtain ⟨s, e, z, rfl⟩ := foldS_range (f := L__law_classes_1 (rosD R)) (s := (labD (List.range R.ls.length), .none)) (n := t) (fun i s => ∃ z, s = (labD (runM R.ls.length (shB R) i), z)) ⟨.none, rfl⟩ fun i s hi hs => by
    obtain ⟨z, rfl⟩ := hs
    have hl := (runM_in (n := R.ls.length) (shB_symm R) i).1
    obtain ⟨z', e⟩ := pass_fold h16 (List.range R.ls.length) (runM R.ls.length (shB R) i) z hl fun x hx => List.mem_range.mp hx
    refine ⟨_, ?_, z', rfl⟩
    have a1 : rng1 (.int (R.ls.length : Nat)) = some ((List.range R.ls.length).map natD) := rng1_nat (by omega)
    have gr : grd (scD (.int (R.ls.length : Nat))) = some () := rfl
    simp only [L__law_classes_1, len_lab, hl, Option.bind_some, gr, a1, e]
    rfl
  exact ⟨z, e⟩
theorem classes_ok {R : Ros} (hl : R.ls.length ≤ 16) : f__law_classes (rosD R) = some (.tuple ((minsM R.ls.length (shB R) R.ls.length).map fun m => rowD (clsM R.ls.length (shB R) m))) := by
  have sy := shB_symm R
  have a1 : rng1 (.int (R.ls.length : Nat)) = some ((List.range R.ls.length).map natD) := rng1_nat (by omega)
  have gr : grd (scD (.int (R.ls.length : Nat))) = some () := rfl
  have l0 : gLen (.list ((List.range R.ls.length).map natD)) = some (.int (R.ls.length : Nat)) := by
    have := len_lab (List.range R.ls.length)
    rw [List.length_range] at this; exact this
  obtain ⟨z, e⟩ := turns_ok (R := R) (by omega) R.ls.length
  have e : foldS ((List.range R.ls.length).map natD) (L__law_classes_1 (rosD R)) (.list ((List.range R.ls.length).map natD), .none) = some (labD (runM R.ls.length (shB R) R.ls.length), z) := e
  have rl := (runM_in (n := R.ls.length) sy R.ls.length).1
  have ss : gSortSet (labD (runM R.ls.length (shB R) R.ls.length)) = some (.list ((minsM R.ls.length (shB R) R.ls.length).map natD)) := by
    unfold labD
    rw [cast_list, xSortSetL (by rw [List.length_map]; omega), cast_list]
    congr 3
    refine rising_one (sortSet_lt _) (List.pairwise_map.mpr ((List.pairwise_lt_range.filter _).imp fun h => by omega)) fun j => ?_
    rw [sortSet_mem, List.mem_map, List.mem_map]
    constructor
    · rintro ⟨m, hm, rfl⟩
      obtain ⟨x, hx, rfl⟩ := List.getElem_of_mem hm
      refine ⟨_, (lab_mins sy).mpr ⟨x, by omega, ?_⟩, rfl⟩
      unfold labM
      rw [List.getD_eq_getElem?_getD, List.getElem?_eq_getElem hx]; rfl
    · rintro ⟨m, hm, rfl⟩
      obtain ⟨x, hx, rfl⟩ := (lab_mins sy).mp hm
      refine ⟨_, ?_, rfl⟩
      unfold labM
      rw [List.getD_eq_getElem?_getD, List.getElem?_eq_getElem (by omega)]
      exact List.getElem_mem _
  have mp : mapS ((minsM R.ls.length (shB R) R.ls.length).map natD) (C__law_classes_1 (labD (runM R.ls.length (shB R) R.ls.length))) = some ((minsM R.ls.length (shB R) R.ls.length).map fun m => rowD (clsM R.ls.length (shB R) m)) := mapS_of fun m hm => by
    have f1 : filS ((List.range R.ls.length).map natD) (C__law_classes_2 (labD (runM R.ls.length (shB R) R.ls.length)) (natD m)) = some ((clsM R.ls.length (shB R) m).map natD) := filS_of fun y hy => by
      have hy := List.mem_range.mp hy
      have hm0 := ((mins_iff (Nat.le_refl _)).mp hm).1
      have eq : gEq (natD ((runM R.ls.length (shB R) R.ls.length).getD y 0)) (natD m) = some (.bool (conB R.ls.length (shB R) m y)) := by
        show gEq (.int _) (.int _) = _
        rw [xEq]
        congr 2
        rw [Bool.eq_iff_iff, decide_eq_true_eq, conB_iff hm0 hy, ← lab_eq sy hm hy]
        unfold labM
        omega
      simp only [C__law_classes_2, ix_lab (show y < (runM R.ls.length (shB R) R.ls.length).length by omega), Option.bind_some, eq, asB_bool]
      split <;> rfl
    simp only [C__law_classes_1, len_lab, rl, Option.bind_some, a1, f1, xTupL]
    rfl
  simp -implicitDefEqProofs only [f__law_classes, ros_ix, len_ls, Option.bind_some, a1, l0, gr, e, ss, xSeqL, mp, xTupL]
theorem rowN_vl {r : List Nat} (hl : r.length ≤ 16) (h : ∀ x ∈ r, x < 16) : Vl 2 4500 (rowD r) := by
  refine ((vl_map (n := 1) (c := 276) fun x hx => vl_smallI (k := 4) (by decide) (by have := h x hx; show (x : Int).natAbs < 16; omega) (by decide)).tuple).mono (by decide) (by omega)
theorem filt_vl {n : Nat} (hn : n ≤ 16) (p : Nat → Bool) : Vl 2 4500 (rowD ((List.range n).filter p)) := by
  have := List.length_filter_le p (List.range n)
  rw [List.length_range] at this
  exact rowN_vl (by omega) fun x hx => by have := List.mem_range.mp (List.mem_filter.mp hx).1; omega
theorem one_ok {R : Ros} (hl : R.ls.length ≤ 16) {x : Nat} (hx : x < R.ls.length) : L_law_2 (rosD R) (natD x) () = some (.nx, ()) := by
  have a1 : rng1 (.int (R.ls.length : Nat)) = some ((List.range R.ls.length).map natD) := rng1_nat (by omega)
  have f1 : filS ((List.range R.ls.length).map natD) (C_law_1 (rosD R) (natD x)) = some ((rivL R x).map natD) := filS_of fun y hy => by
    have hy := List.mem_range.mp hy
    have ne : gNe (natD y) (natD x) = some (.bool (decide (x ≠ y))) := by
      show gNe (.int _) (.int _) = _
      rw [xNe]
      by_cases c : x = y
      · simp [c]
      · have : ¬ ((y : Nat) : Int) = (x : Nat) := by omega
        simp [c, this]
    simp only [C_law_1, ne, Option.bind_some, asB_bool, share_ok hy hx, tru]
    rw [shB_symm R y x]
    by_cases c : x = y
    · simp [c]
    · simp [c]
      split <;> rfl
  have sm : f__law_same (rowD (rivL R x)) (rowD (rivL R x)) = some (.bool true) := same_ok (filt_vl hl _) (by decide) (by decide)
  have tt : gTuple (.list ((rivL R x).map natD)) = some (rowD (rivL R x)) := rfl
  simp only [L_law_2, ros_ix, len_ls, Option.bind_some, a1, f1, rivals_ok (show R.ls.length ≤ 1000 by omega) hx, tt, sm, tru, Bool.not_true, Bool.false_eq_true, if_false]
theorem law_true (ns : List Int) (h : ns.length ≤ 63) : ∃ fs, F_law [.list (ns.map .int)] = some (.bool true, fs) := by
  obtain ⟨d, h1, k1⟩ := state_ok ns h
  obtain ⟨s', h5, k5⟩ := forS_range (f := L_law_1) (s := d) (n := 6) (fun i s => Deck (1000 * i) s) k1 fun i s hi hs => by
    obtain ⟨R, d3, e1, q1, ok⟩ := roster_ok hs (by omega) 8 16 (by decide) (by decide) (by decide)
    have hl := ok.len
    refine ⟨d3, ?_, q1.mono (by omega)⟩
    have e1' : f__law_roster s (.int 8) (.int 16) = some (rosD R, d3) := e1
    have a1 : rng1 (.int (R.ls.length : Nat)) = some ((List.range R.ls.length).map natD) := rng1_nat (by omega)
    have f2 : forS ((List.range R.ls.length).map natD) (L_law_2 (rosD R)) () = some (.nx, ()) := by
      rw [forS_map]
      exact forS_all fun x hx => one_ok hl (List.mem_range.mp hx)
    obtain ⟨C, eC⟩ : ∃ C, C = PyData.tuple ((minsM R.ls.length (shB R) R.ls.length).map fun m => rowD (clsM R.ls.length (shB R) m)) := ⟨_, rfl⟩
    have c1 := comps_ok hl
    have c2 := classes_ok hl
    rw [← eC] at c1 c2
    have ml : (minsM R.ls.length (shB R) R.ls.length).length ≤ 16 := by
      have := List.length_filter_le (fun x => (List.range x).all fun y => !conB R.ls.length (shB R) y x) (List.range R.ls.length)
      rw [List.length_range] at this
      unfold minsM; omega
    have vC : Vl 3 73000 C := by
      rw [eC]
      exact ((vl_map (n := 2) (c := 4500) fun m _ => filt_vl hl _).tuple).mono (by decide) (by omega)
    have sm : f__law_same C C = some (.bool true) := same_ok vC (by decide) (by decide)
    have rp := gRepr_ok (ros_vl ok 4 (by decide) (by decide)) (by decide) (by decide)
    have ne : ∀ s : Str, gNe (.str s) (.str s) = some (.bool false) := fun s => by rw [xNeS]; simp
    simp -implicitDefEqProofs only [L_law_1, e1', Option.bind_some, rp, ros_ix, len_ls, a1, f2, thenS_nx, c1, c2, sm, tru, Bool.not_true, Bool.false_eq_true, if_false, ne, asB_bool]
  have r5 : rng1 (.int 6) = some ((List.range 6).map natD) := rng1_nat (n := 6) (by decide)
  rw [f_law_eq]
  have : f_law (.list (ns.map .int)) = some (.bool true) := by
    simp -implicitDefEqProofs only [f_law, h1, Option.bind_some, r5, h5, thenS_nx]
  rw [this]
  exact ⟨_, rfl⟩

end LK

namespace LK
open PySem L2 PySem.Spec PyProof.Rows DL
/-! ### the text -/
def topS (i : Nat) : Stmt := PySem.Challenge.pw_listedges_k03_rivals_and_components.main.body.getD i (.Pass ⟨0, 0, 0, 0⟩)
abbrev st__law_state : Stmt := topS 7
theorem sc__law_state : FnScope ["_law_script", "_law_cells", "_law_cell"] ["_law_script"] (defScope st__law_state) := ⟨rfl, rfl, rfl, by decide +kernel, rfl, by decide +kernel, by decide +kernel⟩
abbrev st__law_draw : Stmt := topS 8
theorem sc__law_draw : FnScope ["_law_state_here", "_law_limit", "_law_rest", "_law_cell", "_law_mixed"] ["_law_state_here", "_law_limit"] (defScope st__law_draw) := ⟨rfl, rfl, rfl, by decide +kernel, rfl, by decide +kernel, by decide +kernel⟩
abbrev st__law_pick : Stmt := topS 9
theorem sc__law_pick : FnScope ["_law_state_here", "_law_items"] ["_law_state_here", "_law_items"] (defScope st__law_pick) := ⟨rfl, rfl, rfl, by decide +kernel, rfl, by decide +kernel, by decide +kernel⟩
abbrev st__law_roster : Stmt := topS 10
theorem sc__law_roster : FnScope ["_law_state_here", "_law_people", "_law_most", "_law_teachers", "_law_groups", "_law_kind", "_law_lessons", "_law_k", "_law_lesson"] ["_law_state_here", "_law_people", "_law_most"] (defScope st__law_roster) := ⟨rfl, rfl, rfl, by decide +kernel, rfl, by decide +kernel, by decide +kernel⟩
abbrev st__law_share : Stmt := topS 6
theorem sc__law_share : FnScope ["_law_roster_here", "_law_one", "_law_other"] ["_law_roster_here", "_law_one", "_law_other"] (defScope st__law_share) := ⟨rfl, rfl, rfl, by decide +kernel, rfl, by decide +kernel, by decide +kernel⟩
abbrev st__law_same : Stmt := topS 11
theorem sc__law_same : FnScope ["_law_found", "_law_due"] ["_law_found", "_law_due"] (defScope st__law_same) := ⟨rfl, rfl, rfl, by decide +kernel, rfl, by decide +kernel, by decide +kernel⟩
abbrev st_are_rivals : Stmt := topS 1
theorem sc_are_rivals : FnScope ["roster", "one", "other", "first", "second"] ["roster", "one", "other"] (defScope st_are_rivals) := ⟨rfl, rfl, rfl, by decide +kernel, rfl, by decide +kernel, by decide +kernel⟩
abbrev st_rivals : Stmt := topS 2
theorem sc_rivals : FnScope ["roster", "lesson", "other"] ["roster", "lesson"] (defScope st_rivals) := ⟨rfl, rfl, rfl, by decide +kernel, rfl, by decide +kernel, by decide +kernel⟩
abbrev st_component_of : Stmt := topS 3
theorem sc_component_of : FnScope ["roster", "first", "reached", "waiting", "more", "other"] ["roster", "first"] (defScope st_component_of) := ⟨rfl, rfl, rfl, by decide +kernel, rfl, by decide +kernel, by decide +kernel⟩
abbrev st_lesson_components : Stmt := topS 4
theorem sc_lesson_components : FnScope ["roster", "seen", "found", "first", "component", "lesson"] ["roster"] (defScope st_lesson_components) := ⟨rfl, rfl, rfl, by decide +kernel, rfl, by decide +kernel, by decide +kernel⟩
abbrev st__law_classes : Stmt := topS 12
theorem sc__law_classes : FnScope ["_law_roster_here", "_law_number", "_law_turn", "_law_one", "_law_other", "_law_low", "_law_found", "_law_first"] ["_law_roster_here"] (defScope st__law_classes) := ⟨rfl, rfl, rfl, by decide +kernel, rfl, by decide +kernel, by decide +kernel⟩
abbrev st_law : Stmt := topS 13
theorem sc_law : FnScope ["_law_script", "_law_state_here", "_law_turn", "_law_roster_here", "_law_kept", "_law_lesson", "_law_due", "_law_one"] ["_law_script"] (defScope st_law) := ⟨rfl, rfl, rfl, by decide +kernel, rfl, by decide +kernel, by decide +kernel⟩
/-! ### the walk -/
section
variable {P : Program} {w : World} {K : PySem.W.Frag} {mg : Str → Option Value} {base : Heap}
theorem cal__law_state (z_abs : mg "abs" = none) (z_len : mg "len" = none) {f : Addr} {fd : FuncData} (F : L2.Fun K "_law_state" "_law_state" st__law_state f fd) (hm : mg "_law_state" = some (.ref f)) (b : Binds K fd ["_law_script"] []) : CalG P w K mg base 1 "_law_state" [.q] (.r [(.l .s), (.l .s), .s]) F__law_state :=
  ⟨f, fd, ["_law_script"], fnG_dl (sf := S__law_state) (mr := [.u, .u, .u]) (po := []) (r := 2) F sc__law_state rfl rfl (.stb rfl (.nil _ _)) (.inr (nnx_seq nnx_ret)) (fun cdv A outer s H E _ _ _ =>
      ss_cons (ds_setLc 1 [("_law_cell", 2)] (pi_q 0) (pg_nm 2) (pts_no) (pd_b1 clAbs z_abs bt_abs (pd_var 2)))
      (ss_one (ds_ret (pd_rec (pl_cons (pd_lc [("_law_cell", 2)] (pi_seq (pd_frzVar 1)) (pg_nm 2) (pts_if (pb_cmp opGe (pd_var 2) (pd_bin opPow (pd_int) (pd_int)))) (pd_var 2)) (pl_cons (pd_bin opAddL (pd_var 1) (pd_frz (pd_lst (k := 1) .s (pl_cons (pd_bin opAdd (pd_b1 clLen z_len bt_len (pd_var 1)) (pd_int)) (pl_nil))))) (pl_cons (pd_int) (pl_nil))))) (.cons (.u _) (.cons (.u _) (.cons (.rfl _) .nil)))))), hm, F.kp, b⟩
theorem cal__law_draw (z_len : mg "len" = none) {f : Addr} {fd : FuncData} (F : L2.Fun K "_law_draw" "_law_draw" st__law_draw f fd) (hm : mg "_law_draw" = some (.ref f)) (b : Binds K fd ["_law_state_here", "_law_limit"] []) : CalG P w K mg base 1 "_law_draw" [(.r [(.l .s), (.l .s), .s]), .s] .s F__law_draw :=
  ⟨f, fd, ["_law_state_here", "_law_limit"], fnG_dl (sf := S__law_draw) (mr := [(.r [(.l .s), (.l .s), .s]), .u, .u, .u, .u]) (po := [0]) (r := 3) F sc__law_draw rfl rfl (.own (by decide) (.stb rfl (.nil _ _))) (.inl rfl) (fun cdv A outer s H E _ _ _ =>
      ss_cons (ds_pre [2] (ds_wh fuel [(.r [(.l .s), (.l .s), .s]), .s, .u, .u, .u] (.cons (.rfl _) (.cons (.rfl _) (.cons (.rfl _) (.cons (.rfl _) (.cons (.rfl _) .nil))))) (pb_qcmp opNe (pq_ix ixAny (pq_var 0) (pq_int)) (pq_nil))
        (ss_post [2] [1, 2, 3, 4] (ss_le (ss_cons (ds_asg 2 (pd_itm (pp_fld 0 (pp_var 0)) (pq_int)))
      (ss_cons (ds_if (pb_cmp opGt (pd_var 2) (pd_int))
        (ss_cons (ds_setL (pd_bin opFdiv (pd_var 2) (pd_var 1)) (pp_fld 0 (pp_var 0)) (pq_int))
      (ss_one (ds_ret (pd_bin opMod (pd_var 2) (pd_var 1)) (.cons (.rfl _) (.cons (.u _) (.cons (.u _) (.cons (.rfl _) (.cons (.rfl _) .nil))))))))
        (ss_nil))
      (ss_one (ds_drop (pd_popAt (pp_fld 0 (pp_var 0)) (pq_int)))))) (.cons (.rfl _) (.cons (.rfl _) (.cons (.u _) (.cons (.rfl _) (.cons (.rfl _) .nil))))))) (.cons (.rfl _) (.cons (.rfl _) (.cons (.rfl _) (.cons (.rfl _) (.cons (.rfl _) .nil)))))) (.cons (.rfl _) (.cons (.rfl _) (.cons (.rfl _) (.cons (.rfl _) (.cons (.rfl _) .nil))))))
      (ss_cons (ds_setR 2 (pd_bin opAdd (pd_q (pq_ix ixAny (pq_var 0) (pq_int))) (pd_int)) (pp_var 0))
      (ss_cons (ds_asg 3 (pd_bin opMod (pd_itm (pp_fld 1 (pp_var 0)) (pq_bin opMod (pq_ix ixAny (pq_var 0) (pq_int)) (pq_b1 clLen z_len bt_len (pq_ix ixAny (pq_var 0) (pq_int))))) (pd_int)))
      (ss_cons (ds_asg 4 (pd_bin opAdd (pd_bin opMul (pd_var 3) (pd_bin opAdd (pd_int) (pd_bin opMul (pd_int) (pd_q (pq_ix ixAny (pq_var 0) (pq_int)))))) (pd_int)))
      (ss_cons (ds_asg 4 (pd_bin opMod (pd_bin opAdd (pd_var 4) (pd_bin opMul (pd_bin opMul (pd_int) (pd_q (pq_ix ixAny (pq_var 0) (pq_int)))) (pd_q (pq_ix ixAny (pq_var 0) (pq_int))))) (pd_int)))
      (ss_one (ds_ret (pd_bin opMod (pd_bin opFdiv (pd_bin opMod (pd_bin opMul (pd_var 4) (pd_var 4)) (pd_int)) (pd_int)) (pd_var 1)) (.cons (.rfl _) (.cons (.u _) (.cons (.rfl _) (.cons (.u _) (.cons (.u _) .nil)))))))))))), hm, F.kp, b⟩
theorem cal__law_pick (c__law_draw : CalG P w K mg base 1 "_law_draw" [(.r [(.l .s), (.l .s), .s]), .s] .s F__law_draw) (z_len : mg "len" = none) {f : Addr} {fd : FuncData} (F : L2.Fun K "_law_pick" "_law_pick" st__law_pick f fd) (hm : mg "_law_pick" = some (.ref f)) (b : Binds K fd ["_law_state_here", "_law_items"] []) : CalG P w K mg base 2 "_law_pick" [(.r [(.l .s), (.l .s), .s]), (.l .s)] .s F__law_pick :=
  ⟨f, fd, ["_law_state_here", "_law_items"], fnG_dl (sf := S__law_pick) (mr := [(.r [(.l .s), (.l .s), .s]), (.l .s)]) (po := [0, 1]) (r := 0) F sc__law_pick rfl rfl (.own (by decide) (.own (by decide) (.nil _ _))) (.inl rfl) (fun cdv A outer s H E _ _ _ =>
      ss_one (ds_ret (pd_itmG 1 (pd_callL (kk := 0) (j := 0) c__law_draw (pl_lend 0 (pl_cons (pd_q (pq_b1 clLen z_len bt_len (pq_var 1))) (pl_nil))))) (.cons (.rfl _) (.cons (.rfl _) .nil)))), hm, F.kp, b⟩
theorem cal__law_roster (c__law_draw : CalG P w K mg base 1 "_law_draw" [(.r [(.l .s), (.l .s), .s]), .s] .s F__law_draw) (c__law_pick : CalG P w K mg base 2 "_law_pick" [(.r [(.l .s), (.l .s), .s]), (.l .s)] .s F__law_pick) (z_range : mg "range" = none) (z_tuple : mg "tuple" = none) {f : Addr} {fd : FuncData} (F : L2.Fun K "_law_roster" "_law_roster" st__law_roster f fd) (hm : mg "_law_roster" = some (.ref f)) (b : Binds K fd ["_law_state_here", "_law_people", "_law_most"] []) : CalG P w K mg base 3 "_law_roster" [(.r [(.l .s), (.l .s), .s]), .s, .s] .s F__law_roster :=
  ⟨f, fd, ["_law_state_here", "_law_people", "_law_most"], fnG_dl (sf := S__law_roster) (mr := [(.r [(.l .s), (.l .s), .s]), .u, .u, .u, .u, .u, .u, .u, .u]) (po := [0]) (r := 6) F sc__law_roster rfl rfl (.own (by decide) (.stb rfl (.stb rfl (.nil _ _)))) (.inl rfl) (fun cdv A outer s H E _ _ _ =>
      ss_cons (ds_par 3 4 (pl_cons (pd_bin opAdd (pd_int) (pd_callL (kk := 0) (j := 0) c__law_draw (pl_lend 0 (pl_cons (pd_var 1) (pl_nil))))) (pl_cons (pd_bin opAdd (pd_int) (pd_callL (kk := 0) (j := 0) c__law_draw (pl_lend 0 (pl_cons (pd_var 1) (pl_nil))))) (pl_nil))))
      (ss_cons (ds_parT 5 6 (pl_cons (pd_callL (kk := 0) (j := 0) c__law_draw (pl_lend 0 (pl_cons (pd_int) (pl_nil)))) (pl_cons (pd_lst (k := 0) .s (pl_nil)) (pl_nil))))
      (ss_cons (ds_for [(.r [(.l .s), (.l .s), .s]), .s, .s, .s, .s, .s, (.l .s), .u, .u] (pi_fg [7, 8] (pi_r1 z_range (pd_callL (kk := 0) (j := 0) c__law_draw (pl_lend 0 (pl_cons (pd_bin opAdd (pd_var 2) (pd_int)) (pl_nil))))) (.cons (.rfl _) (.cons (.rfl _) (.cons (.rfl _) (.cons (.rfl _) (.cons (.rfl _) (.cons (.rfl _) (.cons (.rfl _) (.cons (.rfl _) (.cons (.rfl _) .nil)))))))))) (.cons (.rfl _) (.cons (.rfl _) (.cons (.rfl _) (.cons (.rfl _) (.cons (.rfl _) (.cons (.rfl _) (.cons (.rfl _) (.cons (.rfl _) (.cons (.rfl _) .nil))))))))) (pg_nm 7)
        (ss_post [7, 8] [1, 2, 3, 4, 5, 6, 7, 8] (ss_le (ss_cons (ds_asg 8 (pd_tup (k := 2) (pl_cons (pd_callL (kk := 0) (j := 0) c__law_draw (pl_lend 0 (pl_cons (pd_var 3) (pl_nil)))) (pl_cons (pd_callL (kk := 0) (j := 0) c__law_draw (pl_lend 0 (pl_cons (pd_var 4) (pl_nil)))) (pl_nil)))))
      (ss_cons (ds_if (pb_w (pbw_and (pb_cmp opEq (pd_var 5) (pd_int)) (pbw_and1 (pb_cmp opEq (pd_callL (kk := 0) (j := 0) c__law_draw (pl_lend 0 (pl_cons (pd_int) (pl_nil)))) (pd_int)))))
        (ss_one (ds_asg 8 (pd_tup (k := 2) (pl_cons (pd_int) (pl_cons (pd_ix ixAny (pd_var 8) (pd_int)) (pl_nil))))))
        (ss_nil))
      (ss_cons (ds_if (pb_w (pbw_and (pb_cmp opEq (pd_var 5) (pd_int)) (pbw_and1 (pb_cmp opEq (pd_callL (kk := 0) (j := 0) c__law_draw (pl_lend 0 (pl_cons (pd_int) (pl_nil)))) (pd_int)))))
        (ss_one (ds_asg 8 (pd_tup (k := 2) (pl_cons (pd_ix ixAny (pd_var 8) (pd_int)) (pl_cons (pd_bin opSub (pd_var 4) (pd_int)) (pl_nil))))))
        (ss_nil))
      (ss_cons (ds_if (pb_w (pbw_and (pb_cmp opEq (pd_var 5) (pd_int)) (pbw_and (pb_qcmp opNe (pq_var 6) (pq_nil)) (pbw_and1 (pb_cmp opEq (pd_callL (kk := 0) (j := 0) c__law_draw (pl_lend 0 (pl_cons (pd_int) (pl_nil)))) (pd_int))))))
        (ss_one (ds_asg 8 (pd_callL2 (k1 := 0) (j1 := 0) (k2 := 1) (j2 := 6) c__law_pick (pl_lend 0 (pl_lend 6 (pl_nil))))))
        (ss_nil))
      (ss_one (ds_drop (pd_app 6 (pd_var 8)))))))) (.cons (.rfl _) (.cons (.rfl _) (.cons (.rfl _) (.cons (.rfl _) (.cons (.rfl _) (.cons (.rfl _) (.cons (.rfl _) (.cons (.u _) (.cons (.u _) .nil))))))))))) (.cons (.rfl _) (.cons (.rfl _) (.cons (.rfl _) (.cons (.rfl _) (.cons (.rfl _) (.cons (.rfl _) (.cons (.rfl _) (.cons (.rfl _) (.cons (.rfl _) .nil))))))))))
      (ss_one (ds_ret (pd_tup (k := 3) (pl_cons (pd_var 3) (pl_cons (pd_var 4) (pl_cons (pd_t1 clTuple z_tuple bt_tuple (pd_frzVar 6)) (pl_nil))))) (.cons (.rfl _) (.cons (.u _) (.cons (.u _) (.cons (.u _) (.cons (.u _) (.cons (.u _) (.cons (.u _) (.cons (.rfl _) (.cons (.rfl _) .nil)))))))))))))), hm, F.kp, b⟩
theorem cal__law_share  {f : Addr} {fd : FuncData} (F : L2.Fun K "_law_share" "_law_share" st__law_share f fd) (hm : mg "_law_share" = some (.ref f)) (b : Binds K fd ["_law_roster_here", "_law_one", "_law_other"] []) : CalG P w K mg base 1 "_law_share" [.s, .s, .s] .s F__law_share :=
  ⟨f, fd, ["_law_roster_here", "_law_one", "_law_other"], fnG_dl (sf := S__law_share) (mr := [.u, .u, .u]) (po := []) (r := 0) F sc__law_share rfl rfl (.stb rfl (.stb rfl (.stb rfl (.nil _ _)))) (.inl rfl) (fun cdv A outer s H E _ _ _ =>
      ss_one (ds_ret (pd_or (pd_cmp opEq (pd_ix ixAny (pd_ix ixAny (pd_ix ixAny (pd_var 0) (pd_int)) (pd_var 1)) (pd_int)) (pd_ix ixAny (pd_ix ixAny (pd_ix ixAny (pd_var 0) (pd_int)) (pd_var 2)) (pd_int))) (pd_or1 (pd_cmp opEq (pd_ix ixAny (pd_ix ixAny (pd_ix ixAny (pd_var 0) (pd_int)) (pd_var 1)) (pd_int)) (pd_ix ixAny (pd_ix ixAny (pd_ix ixAny (pd_var 0) (pd_int)) (pd_var 2)) (pd_int))))) (.cons (.u _) (.cons (.u _) (.cons (.u _) .nil))))), hm, F.kp, b⟩
theorem cal__law_same (z_repr : mg "repr" = none) {f : Addr} {fd : FuncData} (F : L2.Fun K "_law_same" "_law_same" st__law_same f fd) (hm : mg "_law_same" = some (.ref f)) (b : Binds K fd ["_law_found", "_law_due"] []) : CalG P w K mg base 1 "_law_same" [.s, .s] .s F__law_same :=
  ⟨f, fd, ["_law_found", "_law_due"], fnG_dl (sf := S__law_same) (mr := [.u, .u]) (po := []) (r := 0) F sc__law_same rfl rfl (.stb rfl (.stb rfl (.nil _ _))) (.inl rfl) (fun cdv A outer s H E _ _ _ =>
      ss_one (ds_ret (pd_cmp opEq (pd_b1 clRepr z_repr bt_repr (pd_var 0)) (pd_b1 clRepr z_repr bt_repr (pd_var 1))) (.cons (.u _) (.cons (.u _) .nil)))), hm, F.kp, b⟩
theorem cal_are_rivals  {f : Addr} {fd : FuncData} (F : L2.Fun K "are_rivals" "are_rivals" st_are_rivals f fd) (hm : mg "are_rivals" = some (.ref f)) (b : Binds K fd ["roster", "one", "other"] []) : CalG P w K mg base 1 "are_rivals" [.s, .s, .s] .s F_are_rivals :=
  ⟨f, fd, ["roster", "one", "other"], fnG_dl (sf := S_are_rivals) (mr := [.u, .u, .u, .u, .u]) (po := []) (r := 2) F sc_are_rivals rfl rfl (.stb rfl (.stb rfl (.stb rfl (.nil _ _)))) (.inl rfl) (fun cdv A outer s H E _ _ _ =>
      ss_cons (ds_par 3 4 (pl_cons (pd_ix ixAny (pd_ix ixAny (pd_var 0) (pd_int)) (pd_var 1)) (pl_cons (pd_ix ixAny (pd_ix ixAny (pd_var 0) (pd_int)) (pd_var 2)) (pl_nil))))
      (ss_one (ds_ret (pd_and (pd_cmp opNe (pd_var 1) (pd_var 2)) (pd_and1 (pd_or (pd_cmp opEq (pd_ix ixAny (pd_var 3) (pd_int)) (pd_ix ixAny (pd_var 4) (pd_int))) (pd_or1 (pd_cmp opEq (pd_ix ixAny (pd_var 3) (pd_int)) (pd_ix ixAny (pd_var 4) (pd_int))))))) (.cons (.u _) (.cons (.u _) (.cons (.u _) (.cons (.u _) (.cons (.u _) .nil)))))))), hm, F.kp, b⟩
theorem cal_rivals (c_are_rivals : CalG P w K mg base 1 "are_rivals" [.s, .s, .s] .s F_are_rivals) (z_tuple : mg "tuple" = none) (z_range : mg "range" = none) (z_len : mg "len" = none) {f : Addr} {fd : FuncData} (F : L2.Fun K "rivals" "rivals" st_rivals f fd) (hm : mg "rivals" = some (.ref f)) (b : Binds K fd ["roster", "lesson"] []) : CalG P w K mg base 2 "rivals" [.s, .s] .s F_rivals :=
  ⟨f, fd, ["roster", "lesson"], fnG_dl (sf := S_rivals) (mr := [.u, .u, .u]) (po := []) (r := 1) F sc_rivals rfl rfl (.stb rfl (.stb rfl (.nil _ _))) (.inl rfl) (fun cdv A outer s H E _ _ _ =>
      ss_one (ds_ret (pd_t1 clTuple z_tuple bt_tuple (pd_frz (pd_lc [("other", 2)] (pi_r1 z_range (pd_b1 clLen z_len bt_len (pd_ix ixAny (pd_var 0) (pd_int)))) (pg_nm 2) (pts_if (pb_of (pd_call c_are_rivals (pl_cons (pd_var 0) (pl_cons (pd_var 1) (pl_cons (pd_var 2) (pl_nil))))))) (pd_var 2)))) (.cons (.u _) (.cons (.u _) (.cons (.rfl _) .nil))))), hm, F.kp, b⟩
theorem cal_component_of (c_rivals : CalG P w K mg base 2 "rivals" [.s, .s] .s F_rivals) (z_tuple : mg "tuple" = none) (z_sorted : mg "sorted" = none) {f : Addr} {fd : FuncData} (F : L2.Fun K "component_of" "component_of" st_component_of f fd) (hm : mg "component_of" = some (.ref f)) (b : Binds K fd ["roster", "first"] []) : CalG P w K mg base 3 "component_of" [.s, .s] .s F_component_of :=
  ⟨f, fd, ["roster", "first"], fnG_dl (sf := S_component_of) (mr := [.u, .u, .u, .u, .u, .u]) (po := []) (r := 4) F sc_component_of rfl rfl (.stb rfl (.stb rfl (.nil _ _))) (.inl rfl) (fun cdv A outer s H E _ _ _ =>
      ss_cons (ds_parC 2 3 (pl_cons (pd_lst (k := 1) .s (pl_cons (pd_var 1) (pl_nil))) (pl_cons (pd_lst (k := 1) .s (pl_cons (pd_var 1) (pl_nil))) (pl_nil))))
      (ss_cons (ds_pre [4] (ds_wh fuel [.s, .s, (.l .s), (.l .s), .u, .u] (.cons (.rfl _) (.cons (.rfl _) (.cons (.rfl _) (.cons (.rfl _) (.cons (.rfl _) (.cons (.rfl _) .nil)))))) (pb_qcmp opNe (pq_var 3) (pq_nil))
        (ss_post [4] [0, 1, 2, 3, 4, 5] (ss_le (ss_cons (ds_setLc 4 [("other", 5)] (pi_seq (pd_call c_rivals (pl_cons (pd_var 0) (pl_cons (pd_pop (pp_var 3)) (pl_nil))))) (pg_nm 5) (pts_if (pb_qcmp opNotIn (pq_var 5) (pq_var 2))) (pd_var 5))
      (ss_cons (ds_drop (pd_extV 2 4))
      (ss_one (ds_drop (pd_extV 3 4))))) (.cons (.rfl _) (.cons (.rfl _) (.cons (.rfl _) (.cons (.rfl _) (.cons (.u _) (.cons (.rfl _) .nil)))))))) (.cons (.rfl _) (.cons (.rfl _) (.cons (.rfl _) (.cons (.rfl _) (.cons (.rfl _) (.cons (.rfl _) .nil))))))) (.cons (.rfl _) (.cons (.rfl _) (.cons (.rfl _) (.cons (.rfl _) (.cons (.rfl _) (.cons (.rfl _) .nil)))))))
      (ss_one (ds_ret (pd_t1 clTuple z_tuple bt_tuple (pd_frz (pd_b1 clSorted z_sorted bt_sorted (pd_frzVar 2)))) (.cons (.u _) (.cons (.u _) (.cons (.u _) (.cons (.u _) (.cons (.rfl _) (.cons (.rfl _) .nil)))))))))), hm, F.kp, b⟩
theorem cal_lesson_components (c_component_of : CalG P w K mg base 3 "component_of" [.s, .s] .s F_component_of) (z_range : mg "range" = none) (z_len : mg "len" = none) (z_tuple : mg "tuple" = none) {f : Addr} {fd : FuncData} (F : L2.Fun K "lesson_components" "lesson_components" st_lesson_components f fd) (hm : mg "lesson_components" = some (.ref f)) (b : Binds K fd ["roster"] []) : CalG P w K mg base 4 "lesson_components" [.s] .s F_lesson_components :=
  ⟨f, fd, ["roster"], fnG_dl (sf := S_lesson_components) (mr := [.u, .u, .u, .u, .u, .u]) (po := []) (r := 5) F sc_lesson_components rfl rfl (.stb rfl (.nil _ _)) (.inl rfl) (fun cdv A outer s H E _ _ _ =>
      ss_cons (ds_parT 1 2 (pl_cons (pd_dNew) (pl_cons (pd_lst (k := 0) .s (pl_nil)) (pl_nil))))
      (ss_cons (ds_for [.s, .d, (.l .s), .u, .u, .u] (pi_fg [3, 4] (pi_r1 z_range (pd_b1 clLen z_len bt_len (pd_ix ixAny (pd_var 0) (pd_int)))) (.cons (.rfl _) (.cons (.rfl _) (.cons (.rfl _) (.cons (.rfl _) (.cons (.rfl _) (.cons (.rfl _) .nil))))))) (.cons (.rfl _) (.cons (.rfl _) (.cons (.rfl _) (.cons (.rfl _) (.cons (.rfl _) (.cons (.rfl _) .nil)))))) (pg_nm 3)
        (ss_post [3, 4] [0, 1, 2, 3, 4, 5] (ss_le (ss_one (ds_if (pb_dNotIn 1 (pd_var 3))
        (ss_le (ss_cons (ds_asg 4 (pd_call c_component_of (pl_cons (pd_var 0) (pl_cons (pd_var 3) (pl_nil)))))
      (ss_cons (ds_drop (pd_updT 1 5 (pd_var 4) (own := [("lesson", 5)])))
      (ss_one (ds_drop (pd_app 2 (pd_var 4)))))) (.cons (.rfl _) (.cons (.rfl _) (.cons (.rfl _) (.cons (.rfl _) (.cons (.u _) (.cons (.rfl _) .nil)))))))
        (ss_nil))) (.cons (.rfl _) (.cons (.rfl _) (.cons (.rfl _) (.cons (.u _) (.cons (.rfl _) (.cons (.rfl _) .nil)))))))) (.cons (.rfl _) (.cons (.rfl _) (.cons (.rfl _) (.cons (.rfl _) (.cons (.rfl _) (.cons (.rfl _) .nil)))))))
      (ss_one (ds_ret (pd_t1 clTuple z_tuple bt_tuple (pd_frzVar 2)) (.cons (.u _) (.cons (.u _) (.cons (.u _) (.cons (.rfl _) (.cons (.rfl _) (.cons (.rfl _) .nil)))))))))), hm, F.kp, b⟩
theorem cal__law_classes (c__law_share : CalG P w K mg base 1 "_law_share" [.s, .s, .s] .s F__law_share) (z_list : mg "list" = none) (z_range : mg "range" = none) (z_len : mg "len" = none) (z_min : mg "min" = none) (z_sorted : mg "sorted" = none) (z_set : mg "set" = none) (z_tuple : mg "tuple" = none) {f : Addr} {fd : FuncData} (F : L2.Fun K "_law_classes" "_law_classes" st__law_classes f fd) (hm : mg "_law_classes" = some (.ref f)) (b : Binds K fd ["_law_roster_here"] []) : CalG P w K mg base 2 "_law_classes" [.s] .s F__law_classes :=
  ⟨f, fd, ["_law_roster_here"], fnG_dl (sf := S__law_classes) (mr := [.u, .u, .u, .u, .u, .u, .u, .u]) (po := []) (r := 7) F sc__law_classes rfl rfl (.stb rfl (.nil _ _)) (.inl rfl) (fun cdv A outer s H E _ _ _ =>
      ss_cons (ds_asg 1 (pd_lsR z_list (pr_1 z_range (pd_b1 clLen z_len bt_len (pd_ix ixAny (pd_var 0) (pd_int))))))
      (ss_cons (ds_for [.s, (.l .s), .u, .u, .u, .u, .u, .u] (pi_fg [2, 4, 5] (pi_r1 z_range (pd_q (pq_b1 clLen z_len bt_len (pq_var 1)))) (.cons (.rfl _) (.cons (.rfl _) (.cons (.rfl _) (.cons (.rfl _) (.cons (.rfl _) (.cons (.rfl _) (.cons (.rfl _) (.cons (.rfl _) .nil))))))))) (.cons (.rfl _) (.cons (.rfl _) (.cons (.rfl _) (.cons (.rfl _) (.cons (.rfl _) (.cons (.rfl _) (.cons (.rfl _) (.cons (.rfl _) .nil)))))))) (pg_nm 2)
        (ss_post [2, 4, 5] [0, 1, 2, 3, 4, 5, 6, 7] (ss_le (ss_one (ds_for [.s, (.l .s), .s, .u, .u, .u, .u, .u] (pi_fg [4, 5] (pi_r1 z_range (pd_q (pq_b1 clLen z_len bt_len (pq_var 1)))) (.cons (.rfl _) (.cons (.rfl _) (.cons (.rfl _) (.cons (.rfl _) (.cons (.rfl _) (.cons (.rfl _) (.cons (.rfl _) (.cons (.rfl _) .nil))))))))) (.cons (.rfl _) (.cons (.rfl _) (.cons (.rfl _) (.cons (.rfl _) (.cons (.rfl _) (.cons (.rfl _) (.cons (.rfl _) (.cons (.rfl _) .nil)))))))) (pg_nm 3)
        (ss_post [4, 5] [0, 1, 2, 3, 4, 5, 6, 7] (ss_le (ss_one (ds_for [.s, (.l .s), .s, .s, .u, .u, .u, .u] (pi_fg [4, 5] (pi_r1 z_range (pd_var 3)) (.cons (.rfl _) (.cons (.rfl _) (.cons (.rfl _) (.cons (.rfl _) (.cons (.rfl _) (.cons (.rfl _) (.cons (.rfl _) (.cons (.rfl _) .nil))))))))) (.cons (.rfl _) (.cons (.rfl _) (.cons (.rfl _) (.cons (.rfl _) (.cons (.rfl _) (.cons (.rfl _) (.cons (.rfl _) (.cons (.rfl _) .nil)))))))) (pg_nm 4)
        (ss_post [4, 5] [0, 1, 2, 3, 4, 5, 6, 7] (ss_le (ss_one (ds_if (pb_of (pd_call c__law_share (pl_cons (pd_var 0) (pl_cons (pd_var 3) (pl_cons (pd_var 4) (pl_nil))))))
        (ss_le (ss_cons (ds_asg 5 (pd_b2 clMin2 z_min bt_min (pd_itm (pp_var 1) (pq_var 3)) (pd_itm (pp_var 1) (pq_var 4))))
      (ss_one (ds_tg (pd_tup (k := 2) (pl_cons (pd_var 5) (pl_cons (pd_var 5) (pl_nil)))) (pg_tp (k := 2) (pgs_cn (pg_itm 1 (pq_var 3)) (pgs_cn (pg_itm 1 (pq_var 4)) (pgs_nl))))))) (.cons (.rfl _) (.cons (.rfl _) (.cons (.rfl _) (.cons (.rfl _) (.cons (.rfl _) (.cons (.u _) (.cons (.rfl _) (.cons (.rfl _) .nil)))))))))
        (ss_nil))) (.cons (.rfl _) (.cons (.rfl _) (.cons (.rfl _) (.cons (.rfl _) (.cons (.u _) (.cons (.rfl _) (.cons (.rfl _) (.cons (.rfl _) .nil)))))))))) (.cons (.rfl _) (.cons (.rfl _) (.cons (.rfl _) (.cons (.rfl _) (.cons (.rfl _) (.cons (.rfl _) (.cons (.rfl _) (.cons (.rfl _) .nil)))))))))) (.cons (.rfl _) (.cons (.rfl _) (.cons (.rfl _) (.cons (.u _) (.cons (.rfl _) (.cons (.rfl _) (.cons (.rfl _) (.cons (.rfl _) .nil)))))))))) (.cons (.rfl _) (.cons (.rfl _) (.cons (.rfl _) (.cons (.rfl _) (.cons (.rfl _) (.cons (.rfl _) (.cons (.rfl _) (.cons (.rfl _) .nil)))))))))) (.cons (.rfl _) (.cons (.rfl _) (.cons (.u _) (.cons (.rfl _) (.cons (.rfl _) (.cons (.rfl _) (.cons (.rfl _) (.cons (.rfl _) .nil)))))))))) (.cons (.rfl _) (.cons (.rfl _) (.cons (.rfl _) (.cons (.rfl _) (.cons (.rfl _) (.cons (.rfl _) (.cons (.rfl _) (.cons (.rfl _) .nil)))))))))
      (ss_cons (ds_setLc 6 [("_law_first", 7)] (pi_seq (pd_frz (pd_sortSet z_sorted bt_sorted z_set bt_set (pd_frzVar 1)))) (pg_nm 7) (pts_no) (pd_t1 clTuple z_tuple bt_tuple (pd_frz (pd_lc [("_law_one", 3)] (pi_r1 z_range (pd_b1 clLen z_len bt_len (pd_var 1))) (pg_nm 3) (pts_if (pb_cmp opEq (pd_ix ixAny (pd_var 1) (pd_var 3)) (pd_var 7))) (pd_var 3)))))
      (ss_one (ds_ret (pd_t1 clTuple z_tuple bt_tuple (pd_frzVar 6)) (.cons (.u _) (.cons (.u _) (.cons (.rfl _) (.cons (.rfl _) (.cons (.rfl _) (.cons (.rfl _) (.cons (.u _) (.cons (.rfl _) .nil))))))))))))), hm, F.kp, b⟩
theorem fn_law (c__law_state : CalG P w K mg base 1 "_law_state" [.q] (.r [(.l .s), (.l .s), .s]) F__law_state) (c__law_roster : CalG P w K mg base 3 "_law_roster" [(.r [(.l .s), (.l .s), .s]), .s, .s] .s F__law_roster) (c__law_share : CalG P w K mg base 1 "_law_share" [.s, .s, .s] .s F__law_share) (c__law_same : CalG P w K mg base 1 "_law_same" [.s, .s] .s F__law_same) (c_rivals : CalG P w K mg base 2 "rivals" [.s, .s] .s F_rivals) (c_lesson_components : CalG P w K mg base 4 "lesson_components" [.s] .s F_lesson_components) (c__law_classes : CalG P w K mg base 2 "_law_classes" [.s] .s F__law_classes) (z_range : mg "range" = none) (z_repr : mg "repr" = none) (z_len : mg "len" = none) (z_tuple : mg "tuple" = none) {f : Addr} {fd : FuncData} (F : L2.Fun K "law" "law" st_law f fd) : FnG P w K mg base 5 f fd ["_law_script"] (spD K [.q] .s F_law) :=
  fnG_dl (sf := S_law) (mr := [.u, .u, .u, .u, .u, .u, .u, .u]) (po := []) (r := 7) F sc_law rfl rfl (.stb rfl (.nil _ _)) (.inl rfl) (fun cdv A outer s H E _ _ _ =>
      ss_cons (ds_asg 1 (pd_callL (kk := 0) (j := 0) c__law_state (pl_lend 0 (pl_nil))))
      (ss_cons (ds_for [.q, (.r [(.l .s), (.l .s), .s]), .u, .u, .u, .u, .u, .u] (pi_fg [2, 3, 4, 5, 6] (pi_r1 z_range (pd_int)) (.cons (.rfl _) (.cons (.rfl _) (.cons (.rfl _) (.cons (.rfl _) (.cons (.rfl _) (.cons (.rfl _) (.cons (.rfl _) (.cons (.rfl _) .nil))))))))) (.cons (.rfl _) (.cons (.rfl _) (.cons (.rfl _) (.cons (.rfl _) (.cons (.rfl _) (.cons (.rfl _) (.cons (.rfl _) (.cons (.rfl _) .nil)))))))) (pg_nm 2)
        (ss_post [2, 3, 4, 5, 6] [0, 1, 2, 3, 4, 5, 6, 7] (ss_le (ss_cons (ds_asg 3 (pd_callL (kk := 0) (j := 1) c__law_roster (pl_lend 1 (pl_cons (pd_int) (pl_cons (pd_int) (pl_nil))))))
      (ss_cons (ds_asg 4 (pd_b1 clRepr z_repr bt_repr (pd_var 3)))
      (ss_cons (ds_for [.q, (.r [(.l .s), (.l .s), .s]), .s, .s, .s, .u, .u, .u] (pi_fg [5, 6] (pi_r1 z_range (pd_b1 clLen z_len bt_len (pd_ix ixAny (pd_var 3) (pd_int)))) (.cons (.rfl _) (.cons (.rfl _) (.cons (.rfl _) (.cons (.rfl _) (.cons (.rfl _) (.cons (.rfl _) (.cons (.rfl _) (.cons (.rfl _) .nil))))))))) (.cons (.rfl _) (.cons (.rfl _) (.cons (.rfl _) (.cons (.rfl _) (.cons (.rfl _) (.cons (.rfl _) (.cons (.rfl _) (.cons (.rfl _) .nil)))))))) (pg_nm 5)
        (ss_post [5, 6] [0, 1, 2, 3, 4, 5, 6, 7] (ss_le (ss_cons (ds_setLc 6 [("_law_one", 7)] (pi_r1 z_range (pd_b1 clLen z_len bt_len (pd_ix ixAny (pd_var 3) (pd_int)))) (pg_nm 7) (pts_if (pb_w (pbw_and (pb_cmp opNe (pd_var 7) (pd_var 5)) (pbw_and1 (pb_of (pd_call c__law_share (pl_cons (pd_var 3) (pl_cons (pd_var 7) (pl_cons (pd_var 5) (pl_nil)))))))))) (pd_var 7))
      (ss_one (ds_if (pb_not (pb_of (pd_call c__law_same (pl_cons (pd_call c_rivals (pl_cons (pd_var 3) (pl_cons (pd_var 5) (pl_nil)))) (pl_cons (pd_t1 clTuple z_tuple bt_tuple (pd_frzVar 6)) (pl_nil))))))
        (ss_one (ds_ret (pd_bool) (.cons (.u _) (.cons (.u _) (.cons (.u _) (.cons (.u _) (.cons (.u _) (.cons (.u _) (.cons (.u _) (.cons (.rfl _) .nil))))))))))
        (ss_nil)))) (.cons (.rfl _) (.cons (.rfl _) (.cons (.rfl _) (.cons (.rfl _) (.cons (.rfl _) (.cons (.u _) (.cons (.u _) (.cons (.rfl _) .nil)))))))))) (.cons (.rfl _) (.cons (.rfl _) (.cons (.rfl _) (.cons (.rfl _) (.cons (.rfl _) (.cons (.rfl _) (.cons (.rfl _) (.cons (.rfl _) .nil)))))))))
      (ss_one (ds_if (pb_w (pbw_or (pb_not (pb_of (pd_call c__law_same (pl_cons (pd_call c_lesson_components (pl_cons (pd_var 3) (pl_nil))) (pl_cons (pd_call c__law_classes (pl_cons (pd_var 3) (pl_nil))) (pl_nil)))))) (pbw_or1 (pb_cmp opNe (pd_b1 clRepr z_repr bt_repr (pd_var 3)) (pd_var 4)))))
        (ss_one (ds_ret (pd_bool) (.cons (.u _) (.cons (.u _) (.cons (.u _) (.cons (.u _) (.cons (.u _) (.cons (.rfl _) (.cons (.rfl _) (.cons (.rfl _) .nil))))))))))
        (ss_nil)))))) (.cons (.rfl _) (.cons (.rfl _) (.cons (.u _) (.cons (.u _) (.cons (.u _) (.cons (.rfl _) (.cons (.rfl _) (.cons (.rfl _) .nil)))))))))) (.cons (.rfl _) (.cons (.rfl _) (.cons (.rfl _) (.cons (.rfl _) (.cons (.rfl _) (.cons (.rfl _) (.cons (.rfl _) (.cons (.rfl _) .nil)))))))))
      (ss_one (ds_ret (pd_bool) (.cons (.u _) (.cons (.u _) (.cons (.rfl _) (.cons (.rfl _) (.cons (.rfl _) (.cons (.rfl _) (.cons (.rfl _) (.cons (.rfl _) .nil))))))))))))
end
/-! ### what the top has written -/
theorem all_mk {l : PySem.W.OpenLaw} {w : World} {K : PySem.W.Frag} {h : Heap} {mg : Str → Option Value} {fa f1 f2 f3 f4 f5 f6 f7 f8 f9 f10 f11 f12 : Addr} (X : K.In h) (G : h.Ns mainGlobals mg) (hfa : mg "law" = some (.ref fa))
    {od1 an1 : Option Addr} {sl1 : Array (Option Value)} {oc1 kV1 dc1 pm1 cd1 ct1 : Value}
    {od2 an2 : Option Addr} {sl2 : Array (Option Value)} {oc2 kV2 dc2 pm2 cd2 ct2 : Value}
    {od3 an3 : Option Addr} {sl3 : Array (Option Value)} {oc3 kV3 dc3 pm3 cd3 ct3 : Value}
    {od4 an4 : Option Addr} {sl4 : Array (Option Value)} {oc4 kV4 dc4 pm4 cd4 ct4 : Value}
    {od5 an5 : Option Addr} {sl5 : Array (Option Value)} {oc5 kV5 dc5 pm5 cd5 ct5 : Value}
    {od6 an6 : Option Addr} {sl6 : Array (Option Value)} {oc6 kV6 dc6 pm6 cd6 ct6 : Value}
    {od7 an7 : Option Addr} {sl7 : Array (Option Value)} {oc7 kV7 dc7 pm7 cd7 ct7 : Value}
    {od8 an8 : Option Addr} {sl8 : Array (Option Value)} {oc8 kV8 dc8 pm8 cd8 ct8 : Value}
    {od9 an9 : Option Addr} {sl9 : Array (Option Value)} {oc9 kV9 dc9 pm9 cd9 ct9 : Value}
    {od10 an10 : Option Addr} {sl10 : Array (Option Value)} {oc10 kV10 dc10 pm10 cd10 ct10 : Value}
    {od11 an11 : Option Addr} {sl11 : Array (Option Value)} {oc11 kV11 dc11 pm11 cd11 ct11 : Value}
    {od12 an12 : Option Addr} {sl12 : Array (Option Value)} {oc12 kV12 dc12 pm12 cd12 ct12 : Value}
    (a1 : PySem.W.nsIn K mainGlobals "_law_state" = some (some (.ref f1))) (l1 : K.lookup f1 = some ⟨oc1, od1, .func (PySem.W.fnOf "_law_state" "_law_state" (defArgs st__law_state) (defBody st__law_state) (defScope st__law_state) .none kV1 dc1 pm1 an1 cd1 ct1), sl1⟩) (c1 : PySem.W.codeIn K cd1 "_law_state" = true) (k1 : PySem.W.keepIn K (.ref f1) = true)
    (a2 : PySem.W.nsIn K mainGlobals "_law_draw" = some (some (.ref f2))) (l2 : K.lookup f2 = some ⟨oc2, od2, .func (PySem.W.fnOf "_law_draw" "_law_draw" (defArgs st__law_draw) (defBody st__law_draw) (defScope st__law_draw) .none kV2 dc2 pm2 an2 cd2 ct2), sl2⟩) (c2 : PySem.W.codeIn K cd2 "_law_draw" = true) (k2 : PySem.W.keepIn K (.ref f2) = true)
    (a3 : PySem.W.nsIn K mainGlobals "_law_pick" = some (some (.ref f3))) (l3 : K.lookup f3 = some ⟨oc3, od3, .func (PySem.W.fnOf "_law_pick" "_law_pick" (defArgs st__law_pick) (defBody st__law_pick) (defScope st__law_pick) .none kV3 dc3 pm3 an3 cd3 ct3), sl3⟩) (c3 : PySem.W.codeIn K cd3 "_law_pick" = true) (k3 : PySem.W.keepIn K (.ref f3) = true)
    (a4 : PySem.W.nsIn K mainGlobals "_law_roster" = some (some (.ref f4))) (l4 : K.lookup f4 = some ⟨oc4, od4, .func (PySem.W.fnOf "_law_roster" "_law_roster" (defArgs st__law_roster) (defBody st__law_roster) (defScope st__law_roster) .none kV4 dc4 pm4 an4 cd4 ct4), sl4⟩) (c4 : PySem.W.codeIn K cd4 "_law_roster" = true) (k4 : PySem.W.keepIn K (.ref f4) = true)
    (a5 : PySem.W.nsIn K mainGlobals "_law_share" = some (some (.ref f5))) (l5 : K.lookup f5 = some ⟨oc5, od5, .func (PySem.W.fnOf "_law_share" "_law_share" (defArgs st__law_share) (defBody st__law_share) (defScope st__law_share) .none kV5 dc5 pm5 an5 cd5 ct5), sl5⟩) (c5 : PySem.W.codeIn K cd5 "_law_share" = true) (k5 : PySem.W.keepIn K (.ref f5) = true)
    (a6 : PySem.W.nsIn K mainGlobals "_law_same" = some (some (.ref f6))) (l6 : K.lookup f6 = some ⟨oc6, od6, .func (PySem.W.fnOf "_law_same" "_law_same" (defArgs st__law_same) (defBody st__law_same) (defScope st__law_same) .none kV6 dc6 pm6 an6 cd6 ct6), sl6⟩) (c6 : PySem.W.codeIn K cd6 "_law_same" = true) (k6 : PySem.W.keepIn K (.ref f6) = true)
    (a7 : PySem.W.nsIn K mainGlobals "are_rivals" = some (some (.ref f7))) (l7 : K.lookup f7 = some ⟨oc7, od7, .func (PySem.W.fnOf "are_rivals" "are_rivals" (defArgs st_are_rivals) (defBody st_are_rivals) (defScope st_are_rivals) .none kV7 dc7 pm7 an7 cd7 ct7), sl7⟩) (c7 : PySem.W.codeIn K cd7 "are_rivals" = true) (k7 : PySem.W.keepIn K (.ref f7) = true)
    (a8 : PySem.W.nsIn K mainGlobals "rivals" = some (some (.ref f8))) (l8 : K.lookup f8 = some ⟨oc8, od8, .func (PySem.W.fnOf "rivals" "rivals" (defArgs st_rivals) (defBody st_rivals) (defScope st_rivals) .none kV8 dc8 pm8 an8 cd8 ct8), sl8⟩) (c8 : PySem.W.codeIn K cd8 "rivals" = true) (k8 : PySem.W.keepIn K (.ref f8) = true)
    (a9 : PySem.W.nsIn K mainGlobals "component_of" = some (some (.ref f9))) (l9 : K.lookup f9 = some ⟨oc9, od9, .func (PySem.W.fnOf "component_of" "component_of" (defArgs st_component_of) (defBody st_component_of) (defScope st_component_of) .none kV9 dc9 pm9 an9 cd9 ct9), sl9⟩) (c9 : PySem.W.codeIn K cd9 "component_of" = true) (k9 : PySem.W.keepIn K (.ref f9) = true)
    (a10 : PySem.W.nsIn K mainGlobals "lesson_components" = some (some (.ref f10))) (l10 : K.lookup f10 = some ⟨oc10, od10, .func (PySem.W.fnOf "lesson_components" "lesson_components" (defArgs st_lesson_components) (defBody st_lesson_components) (defScope st_lesson_components) .none kV10 dc10 pm10 an10 cd10 ct10), sl10⟩) (c10 : PySem.W.codeIn K cd10 "lesson_components" = true) (k10 : PySem.W.keepIn K (.ref f10) = true)
    (a11 : PySem.W.nsIn K mainGlobals "_law_classes" = some (some (.ref f11))) (l11 : K.lookup f11 = some ⟨oc11, od11, .func (PySem.W.fnOf "_law_classes" "_law_classes" (defArgs st__law_classes) (defBody st__law_classes) (defScope st__law_classes) .none kV11 dc11 pm11 an11 cd11 ct11), sl11⟩) (c11 : PySem.W.codeIn K cd11 "_law_classes" = true) (k11 : PySem.W.keepIn K (.ref f11) = true)
    (a12 : PySem.W.nsIn K mainGlobals "law" = some (some (.ref f12))) (l12 : K.lookup f12 = some ⟨oc12, od12, .func (PySem.W.fnOf "law" "law" (defArgs st_law) (defBody st_law) (defScope st_law) .none kV12 dc12 pm12 an12 cd12 ct12), sl12⟩) (c12 : PySem.W.codeIn K cd12 "law" = true) (k12 : PySem.W.keepIn K (.ref f12) = true)
    (z_abs : PySem.W.nsIn K mainGlobals "abs" = some none)
    (z_len : PySem.W.nsIn K mainGlobals "len" = some none)
    (z_range : PySem.W.nsIn K mainGlobals "range" = some none)
    (z_tuple : PySem.W.nsIn K mainGlobals "tuple" = some none)
    (z_repr : PySem.W.nsIn K mainGlobals "repr" = some none)
    (z_sorted : PySem.W.nsIn K mainGlobals "sorted" = some none)
    (z_list : PySem.W.nsIn K mainGlobals "list" = some none)
    (z_min : PySem.W.nsIn K mainGlobals "min" = some none)
    (z_set : PySem.W.nsIn K mainGlobals "set" = some none) :
    ∃ fd : FuncData, (∀ (s : Shared) (v : Value), BindsTo s fd ⟨[v], []⟩ [("_law_script", v)]) ∧ ∀ base : Heap, K.In base → base.Ns mainGlobals mg → FnG l.prog w K mg base 5 fa fd ["_law_script"] (spD K [.q] .s F_law) := by
  have e := hfa.symm.trans (PySem.W.mg_of X G a12)
  cases e
  have F1 := fun_mk (st := st__law_state) l1 c1 k1
  have b1 := F1.binds (ps := ["_law_script"]) fun _ _ _ _ _ _ us hl => match us, hl with | [_], _ => rfl
  have F2 := fun_mk (st := st__law_draw) l2 c2 k2
  have b2 := F2.binds (ps := ["_law_state_here", "_law_limit"]) fun _ _ _ _ _ _ us hl => match us, hl with | [_, _], _ => rfl
  have F3 := fun_mk (st := st__law_pick) l3 c3 k3
  have b3 := F3.binds (ps := ["_law_state_here", "_law_items"]) fun _ _ _ _ _ _ us hl => match us, hl with | [_, _], _ => rfl
  have F4 := fun_mk (st := st__law_roster) l4 c4 k4
  have b4 := F4.binds (ps := ["_law_state_here", "_law_people", "_law_most"]) fun _ _ _ _ _ _ us hl => match us, hl with | [_, _, _], _ => rfl
  have F5 := fun_mk (st := st__law_share) l5 c5 k5
  have b5 := F5.binds (ps := ["_law_roster_here", "_law_one", "_law_other"]) fun _ _ _ _ _ _ us hl => match us, hl with | [_, _, _], _ => rfl
  have F6 := fun_mk (st := st__law_same) l6 c6 k6
  have b6 := F6.binds (ps := ["_law_found", "_law_due"]) fun _ _ _ _ _ _ us hl => match us, hl with | [_, _], _ => rfl
  have F7 := fun_mk (st := st_are_rivals) l7 c7 k7
  have b7 := F7.binds (ps := ["roster", "one", "other"]) fun _ _ _ _ _ _ us hl => match us, hl with | [_, _, _], _ => rfl
  have F8 := fun_mk (st := st_rivals) l8 c8 k8
  have b8 := F8.binds (ps := ["roster", "lesson"]) fun _ _ _ _ _ _ us hl => match us, hl with | [_, _], _ => rfl
  have F9 := fun_mk (st := st_component_of) l9 c9 k9
  have b9 := F9.binds (ps := ["roster", "first"]) fun _ _ _ _ _ _ us hl => match us, hl with | [_, _], _ => rfl
  have F10 := fun_mk (st := st_lesson_components) l10 c10 k10
  have b10 := F10.binds (ps := ["roster"]) fun _ _ _ _ _ _ us hl => match us, hl with | [_], _ => rfl
  have F11 := fun_mk (st := st__law_classes) l11 c11 k11
  have b11 := F11.binds (ps := ["_law_roster_here"]) fun _ _ _ _ _ _ us hl => match us, hl with | [_], _ => rfl
  have F12 := fun_mk (st := st_law) l12 c12 k12
  refine ⟨PySem.W.fnOf "law" "law" (defArgs st_law) (defBody st_law) (defScope st_law) .none kV12 dc12 pm12 an12 cd12 ct12, fun s v => .of_eq rfl, fun base _ _ => ?_⟩
  have y_abs := PySem.W.mg_none_of X G z_abs
  have y_len := PySem.W.mg_none_of X G z_len
  have y_range := PySem.W.mg_none_of X G z_range
  have y_tuple := PySem.W.mg_none_of X G z_tuple
  have y_repr := PySem.W.mg_none_of X G z_repr
  have y_sorted := PySem.W.mg_none_of X G z_sorted
  have y_list := PySem.W.mg_none_of X G z_list
  have y_min := PySem.W.mg_none_of X G z_min
  have y_set := PySem.W.mg_none_of X G z_set
  have C__law_state := cal__law_state (P := l.prog) (w := w) (base := base) y_abs y_len F1 (PySem.W.mg_of X G a1) b1
  have C__law_draw := cal__law_draw (P := l.prog) (w := w) (base := base) y_len F2 (PySem.W.mg_of X G a2) b2
  have C__law_pick := cal__law_pick (P := l.prog) (w := w) (base := base) C__law_draw y_len F3 (PySem.W.mg_of X G a3) b3
  have C__law_roster := cal__law_roster (P := l.prog) (w := w) (base := base) C__law_draw C__law_pick y_range y_tuple F4 (PySem.W.mg_of X G a4) b4
  have C__law_share := cal__law_share (P := l.prog) (w := w) (base := base)  F5 (PySem.W.mg_of X G a5) b5
  have C__law_same := cal__law_same (P := l.prog) (w := w) (base := base) y_repr F6 (PySem.W.mg_of X G a6) b6
  have C_are_rivals := cal_are_rivals (P := l.prog) (w := w) (base := base)  F7 (PySem.W.mg_of X G a7) b7
  have C_rivals := cal_rivals (P := l.prog) (w := w) (base := base) C_are_rivals y_tuple y_range y_len F8 (PySem.W.mg_of X G a8) b8
  have C_component_of := cal_component_of (P := l.prog) (w := w) (base := base) C_rivals y_tuple y_sorted F9 (PySem.W.mg_of X G a9) b9
  have C_lesson_components := cal_lesson_components (P := l.prog) (w := w) (base := base) C_component_of y_range y_len y_tuple F10 (PySem.W.mg_of X G a10) b10
  have C__law_classes := cal__law_classes (P := l.prog) (w := w) (base := base) C__law_share y_list y_range y_len y_min y_sorted y_set y_tuple F11 (PySem.W.mg_of X G a11) b11
  exact fn_law C__law_state C__law_roster C__law_share C__law_same C_rivals C_lesson_components C__law_classes y_range y_repr y_len y_tuple F12
end LK

open PySem PySem.W PyProof.Rows
set_option maxHeartbeats 0 in
theorem PySem.Challenge.cw_listedges_k03_rivals_and_components_holds : PySem.Challenge.rw_listedges_k03_rivals_and_components.Holds := by
  w_on; o_law; k_head; (case hw => w_witness2)
  k_fill
  refine DL.walk_ofG (l := PySem.Challenge.rw_listedges_k03_rivals_and_components) (n := 63) (k := 5) (x := "_law_script") (Fn := LK.F_law) rfl (by decide) rfl ⟨rfl, by decide, by decide⟩ (fun w h Y => PySem.W.kIn_of Y) ?F (fun ns h => LK.law_true ns h)
  case F =>
    intro w mg fa h KX G hmg
    refine' LK.all_mk KX G hmg ?a1 ?l1 ?c1 ?k1 ?a2 ?l2 ?c2 ?k2 ?a3 ?l3 ?c3 ?k3 ?a4 ?l4 ?c4 ?k4 ?a5 ?l5 ?c5 ?k5 ?a6 ?l6 ?c6 ?k6 ?a7 ?l7 ?c7 ?k7 ?a8 ?l8 ?c8 ?k8 ?a9 ?l9 ?c9 ?k9 ?a10 ?l10 ?c10 ?k10 ?a11 ?l11 ?c11 ?k11 ?a12 ?l12 ?c12 ?k12 ?z_abs ?z_len ?z_range ?z_tuple ?z_repr ?z_sorted ?z_list ?z_min ?z_set
    (case a1 => k_is); (case l1 => k_is); (case c1 => k_is); (case k1 => k_is); (case a2 => k_is); (case l2 => k_is); (case c2 => k_is); (case k2 => k_is); (case a3 => k_is); (case l3 => k_is); (case c3 => k_is); (case k3 => k_is); (case a4 => k_is); (case l4 => k_is); (case c4 => k_is); (case k4 => k_is); (case a5 => k_is); (case l5 => k_is); (case c5 => k_is); (case k5 => k_is); (case a6 => k_is); (case l6 => k_is); (case c6 => k_is); (case k6 => k_is); (case a7 => k_is); (case l7 => k_is); (case c7 => k_is); (case k7 => k_is); (case a8 => k_is); (case l8 => k_is); (case c8 => k_is); (case k8 => k_is); (case a9 => k_is); (case l9 => k_is); (case c9 => k_is); (case k9 => k_is); (case a10 => k_is); (case l10 => k_is); (case c10 => k_is); (case k10 => k_is); (case a11 => k_is); (case l11 => k_is); (case c11 => k_is); (case k11 => k_is); (case a12 => k_is); (case l12 => k_is); (case c12 => k_is); (case k12 => k_is); (case z_abs => k_is); (case z_len => k_is); (case z_range => k_is); (case z_tuple => k_is); (case z_repr => k_is); (case z_sorted => k_is); (case z_list => k_is); (case z_min => k_is); (case z_set => k_is)
